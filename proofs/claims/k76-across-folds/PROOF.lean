import PyProof.Rows.All
import HandS.ForMost
import HandS.DictTup
import HandS.Zip
import HandS.Conv
import HandS.Deep
import HandS.TupMul
import HandS.TupAny
import HandS.IsInst
import HandS.Style
import HandS.WordsExc
import HandS.SetFor
import Wide.All
import OpenK.AllK
import Wide.FinOn
import PySem.Challenge.RW_rateflows_k76_across_folds
set_option Elab.async false
set_option maxRecDepth 100000
set_option linter.all false
namespace Vf
open PySem L2

/-- the built-in classes that a program asks for -/
inductive Ty | int | bool | str | tuple | list | dict
  deriving DecidableEq
def Ty.name : Ty → String
  | .int => "int" | .bool => "bool" | .str => "str" | .tuple => "tuple" | .list => "list" | .dict => "dict"
inductive D where
  | non | bl (b : Bool) | int (i : Int) | str (s : Str) | ref (a : Addr) | ty (t : Ty) | tup (xs : List D) | lst (xs : List D) | dk (kvs : List (Key × D)) | dt (kvs : List (List Key × D))
  deriving Inhabited

mutual
def RepF (F : Hp) : D → V → Prop
  | .non, v => v = .non
  | .bl b, v => v = .bl b
  | .int i, v => v = .int i
  | .str s, v => v = .str s
  | .ref a, v => v = .ref a
  | .ty t, v => v = .ty t.name
  | .tup ds, v => ∃ a vs, v = .ref a ∧ F a = some (.tup vs) ∧ RepFs F ds vs
  | .lst ds, v => ∃ a vs, v = .ref a ∧ F a = some (.lst vs) ∧ RepFs F ds vs
  | .dk kvs, v => ∃ a ks, v = .ref a ∧ F a = some (.dK ks) ∧ RepK F kvs ks
  | .dt kvs, v => ∃ a ks, v = .ref a ∧ F a = some (.dT ks) ∧ RepT F kvs ks
def RepFs (F : Hp) : List D → List V → Prop
  | [], vs => vs = []
  | d :: ds, vs => ∃ v r, vs = v :: r ∧ RepF F d v ∧ RepFs F ds r
def RepK (F : Hp) : List (Key × D) → List (Key × V) → Prop
  | [], vs => vs = []
  | (k, d) :: ds, vs => ∃ v r, vs = (k, v) :: r ∧ RepF F d v ∧ RepK F ds r
def RepT (F : Hp) : List (List Key × D) → List (List Key × V) → Prop
  | [], vs => vs = []
  | (k, d) :: ds, vs => ∃ v r, vs = (k, v) :: r ∧ RepF F d v ∧ RepT F ds r
end
abbrev Sub (F H : Hp) : Prop := Same F H
mutual
theorem RepF.mono {F F' : Hp} (s : Sub F F') : ∀ (d : D) (v : V), RepF F d v → RepF F' d v
  | .non, _, h => h
  | .bl _, _, h => h
  | .int _, _, h => h
  | .str _, _, h => h
  | .ref _, _, h => h
  | .ty _, _, h => h
  | .tup ds, _, ⟨a, vs, e, q, r⟩ => ⟨a, vs, e, s _ _ q, RepFs.mono s ds vs r⟩
  | .lst ds, _, ⟨a, vs, e, q, r⟩ => ⟨a, vs, e, s _ _ q, RepFs.mono s ds vs r⟩
  | .dk kvs, _, ⟨a, ks, e, q, r⟩ => ⟨a, ks, e, s _ _ q, RepK.mono s kvs ks r⟩
  | .dt kvs, _, ⟨a, ks, e, q, r⟩ => ⟨a, ks, e, s _ _ q, RepT.mono s kvs ks r⟩
theorem RepFs.mono {F F' : Hp} (s : Sub F F') : ∀ (ds : List D) (vs : List V), RepFs F ds vs → RepFs F' ds vs
  | [], _, h => h
  | d :: ds, _, ⟨v, r, e, h, t⟩ => ⟨v, r, e, RepF.mono s d v h, RepFs.mono s ds r t⟩
theorem RepK.mono {F F' : Hp} (s : Sub F F') : ∀ (ds : List (Key × D)) (vs : List (Key × V)), RepK F ds vs → RepK F' ds vs
  | [], _, h => h
  | (_, d) :: ds, _, ⟨v, r, e, h, t⟩ => ⟨v, r, e, RepF.mono s d v h, RepK.mono s ds r t⟩
theorem RepT.mono {F F' : Hp} (s : Sub F F') : ∀ (ds : List (List Key × D)) (vs : List (List Key × V)), RepT F ds vs → RepT F' ds vs
  | [], _, h => h
  | (_, d) :: ds, _, ⟨v, r, e, h, t⟩ => ⟨v, r, e, RepF.mono s d v h, RepT.mono s ds r t⟩
end

theorem RepFs.length {F : Hp} : ∀ {ds : List D} {vs : List V}, RepFs F ds vs → ds.length = vs.length
  | [], _, h => by subst h; rfl
  | d :: ds, _, ⟨v, r, e, _, t⟩ => by subst e; simp [RepFs.length t]
theorem RepFs.get {F : Hp} : ∀ {ds : List D} {vs : List V} {i : Nat} {v : V}, RepFs F ds vs → vs[i]? = some v → ∃ d, ds[i]? = some d ∧ RepF F d v
  | [], _, i, v, h, e => by subst h; simp at e
  | d :: ds, _, i, v, ⟨v', r, e', h, t⟩, e => by
    subst e'
    cases i with
    | zero => simp at e; subst e; exact ⟨d, rfl, h⟩
    | succ i => simp at e; simpa using RepFs.get t e
theorem RepFs.get' {F : Hp} : ∀ {ds : List D} {vs : List V} {i : Nat} {d : D}, RepFs F ds vs → ds[i]? = some d → ∃ v, vs[i]? = some v ∧ RepF F d v
  | [], _, i, v, h, e => by simp at e
  | d :: ds, _, i, v, ⟨v', r, e', h, t⟩, e => by
    subst e'
    cases i with
    | zero => simp at e; subst e; exact ⟨v', rfl, h⟩
    | succ i => simp at e; simpa using RepFs.get' t e
theorem RepFs.append {F : Hp} : ∀ {ds es : List D} {vs ws : List V}, RepFs F ds vs → RepFs F es ws → RepFs F (ds ++ es) (vs ++ ws)
  | [], _, _, _, h, g => by subst h; exact g
  | d :: ds, _, _, _, ⟨v, r, e, h, t⟩, g => by subst e; exact ⟨v, r ++ _, rfl, h, RepFs.append t g⟩
theorem RepFs.take {F : Hp} : ∀ {ds : List D} {vs : List V} (n : Nat), RepFs F ds vs → RepFs F (ds.take n) (vs.take n)
  | _, _, 0, _ => by simp [RepFs]
  | [], _, n + 1, h => by subst h; simp [RepFs]
  | d :: ds, _, n + 1, ⟨v, r, e, h, t⟩ => by subst e; exact ⟨v, r.take n, rfl, h, RepFs.take n t⟩
theorem RepFs.drop {F : Hp} : ∀ {ds : List D} {vs : List V} (n : Nat), RepFs F ds vs → RepFs F (ds.drop n) (vs.drop n)
  | _, _, 0, h => h
  | [], _, n + 1, h => by subst h; simp [RepFs]
  | d :: ds, _, n + 1, ⟨v, r, e, h, t⟩ => by subst e; exact RepFs.drop n t
theorem RepFs.set {F : Hp} {d : D} {v : V} (h : RepF F d v) : ∀ {ds : List D} {vs : List V} (i : Nat), RepFs F ds vs → RepFs F (ds.set i d) (vs.set i v)
  | [], _, _, g => by subst g; simp [RepFs]
  | _ :: ds, _, 0, ⟨v', r, e, _, t⟩ => by subst e; exact ⟨v, r, rfl, h, t⟩
  | _ :: ds, _, i + 1, ⟨v', r, e, h', t⟩ => by subst e; exact ⟨v', r.set i v, rfl, h', RepFs.set h i t⟩
theorem RepFs.dropLast {F : Hp} {ds : List D} {vs : List V} (h : RepFs F ds vs) : RepFs F ds.dropLast vs.dropLast := by
  rw [List.dropLast_eq_take, List.dropLast_eq_take, h.length]; exact h.take _
theorem RepFs.reverse {F : Hp} : ∀ {ds : List D} {vs : List V}, RepFs F ds vs → RepFs F ds.reverse vs.reverse
  | [], _, h => by subst h; simp [RepFs]
  | d :: ds, _, ⟨v, r, e, h, t⟩ => by
    subst e
    rw [List.reverse_cons, List.reverse_cons]
    exact (RepFs.reverse t).append ⟨v, [], rfl, h, rfl⟩
theorem RepFs.rep {F : Hp} {ds : List D} {vs : List V} (h : RepFs F ds vs) : ∀ n : Nat, RepFs F (List.replicate n ds).flatten (List.replicate n vs).flatten
  | 0 => by simp [RepFs]
  | n + 1 => by rw [List.replicate_succ, List.replicate_succ, List.flatten_cons, List.flatten_cons]; exact h.append (h.rep n)

/-! ### ghosts, growth -/
structure Cg (Z : Type) where
  own : Addr → Prop
  rep : Z → Hp → Prop
  loc : ∀ z H H', rep z H → (∀ a, own a → H' a = H a) → rep z H'
def g0 : Cg Unit := ⟨fun _ => False, fun _ _ => True, fun _ _ _ _ _ => trivial⟩
structure Grow {Z : Type} (g : Cg Z) (H F H' F' : Hp) : Prop where
  hh : ∀ a o, ¬ g.own a → H a = some o → H' a = some o
  os : ∀ a, H a ≠ none → H' a ≠ none
  ff : Sub F F'
  fh : Sub F' H'
  nw : ∀ a, H a ≠ none → F' a = F a
section
variable {Z : Type} {g : Cg Z} {H F H' F' H2 F2 : Hp}
theorem Grow.refl (h : Sub F H) : Grow g H F H F := ⟨fun _ _ _ e => e, fun _ e => e, Same.refl _, h, fun _ _ => rfl⟩
theorem Grow.trans (a : Grow g H F H' F') (b : Grow g H' F' H2 F2) : Grow g H F H2 F2 :=
  ⟨fun x o n e => b.hh x o n (a.hh x o n e), fun x e => b.os x (a.os x e), a.ff.trans b.ff, b.fh, fun x e => (b.nw x (a.os x e)).trans (a.nw x e)⟩
/-- a growth that writes no ghost -/
theorem Grow.of0 (a : Grow g0 H F H' F') : Grow g H F H' F' := ⟨fun x o _ e => a.hh x o id e, a.os, a.ff, a.fh, a.nw⟩
theorem Grow.same (a : Grow g0 H F H' F') : Sub H H' := fun x o e => a.hh x o id e
theorem Grow.rep0 (a : Grow g0 H F H' F') {z : Z} (go : ∀ a, g.own a → H a ≠ none) (r : g.rep z H) : g.rep z H' := g.loc z H H' r fun x hx => by
  cases e : H x with
  | none => exact absurd e (go x hx)
  | some o => exact a.hh x o id e
theorem none_ne {α : Type} {o : Option α} (h : o ≠ none) : ∃ x, o = some x := by cases o with | none => exact absurd rfl h | some x => exact ⟨x, rfl⟩
theorem some_ne {α : Type} {o : Option α} {x : α} (h : o = some x) : o ≠ none := by rw [h]; exact fun z => nomatch z
/-- a new frozen object -/
theorem Grow.new {p : Addr} {o : HO} (h : Sub F H) (n : H p = none) : Grow g0 H F (upd H p o) (upd F p o) := by
  refine ⟨fun a u _ e => ?_, fun a e => ?_, fun a u e => ?_, fun a u e => ?_, fun a e => ?_⟩
  · rw [upd_ne (ne_of_none e n)]; exact e
  · obtain ⟨u, e⟩ := none_ne e
    rw [upd_ne (ne_of_none e n)]; exact some_ne e
  · rw [upd_ne (ne_of_none (h _ _ e) n)]; exact e
  · by_cases q : a = p
    · subst q; rw [upd_same] at e ⊢; exact e
    · rw [upd_ne q] at e ⊢; exact h _ _ e
  · obtain ⟨u, e⟩ := none_ne e
    exact upd_ne (ne_of_none e n)
/-- a new object, not frozen -/
theorem Grow.newO {p : Addr} {o : HO} (h : Sub F H) (n : H p = none) : Grow g0 H F (upd H p o) F := by
  refine ⟨fun a u _ e => ?_, fun a e => ?_, Same.refl _, fun a u e => ?_, fun a e => rfl⟩
  · rw [upd_ne (ne_of_none e n)]; exact e
  · obtain ⟨u, e⟩ := none_ne e
    rw [upd_ne (ne_of_none e n)]; exact some_ne e
  · rw [upd_ne (ne_of_none (h _ _ e) n)]; exact h _ _ e
end

/-! ### slots -/
inductive Sl | no | sh (d : D) | ow (d : D)
  deriving Inhabited
abbrev Sto := List Sl
def OwnAt (F H : Hp) : D → Addr → Prop
  | .lst ds, a => ∃ vs, H a = some (.lst vs) ∧ RepFs F ds vs
  | .dk kvs, a => ∃ ks, H a = some (.dK ks) ∧ RepK F kvs ks
  | .dt kvs, a => ∃ ks, H a = some (.dT ks) ∧ RepT F kvs ks
  | _, _ => False
def BRep {Z : Type} (g : Cg Z) (F H : Hp) (d : D) (v : V) : Prop := RepF F d v ∨ ∃ a, v = .ref a ∧ ¬ g.own a ∧ OwnAt F H d a
def SlotOk {Z : Type} (g : Cg Z) (H0 F H : Hp) : Sl → Option V → Prop
  | .no, _ => True
  | .sh d, o => ∃ v, o = some v ∧ RepF F d v
  | .ow d, o => ∃ a, o = some (.ref a) ∧ H0 a = none ∧ F a = none ∧ ¬ g.own a ∧ OwnAt F H d a
structure Sta {Z : Type} (g : Cg Z) (H0 F0 : Hp) (ρ : Sto) (F : Hp) (σ : L2.St) (H : Hp) : Prop where
  gr : Grow g H0 F0 H F
  go : ∀ a, g.own a → H a ≠ none
  gf : ∀ a, g.own a → F a = none
  len : σ.length = ρ.length
  sl : ∀ (i : Nat) (s : Sl), ρ[i]? = some s → ∃ o, σ[i]? = some o ∧ SlotOk g H0 F H s o
  inj : ∀ (i j : Nat) (d e : D) (a : Addr), ρ[i]? = some (.ow d) → ρ[j]? = some (.ow e) → σ[i]? = some (some (.ref a)) → σ[j]? = some (some (.ref a)) → i = j
section
variable {Z : Type} {g : Cg Z} {H0 F0 H F H' F' H2 F2 : Hp} {ρ : Sto} {σ : L2.St} {d : D} {v : V} {a : Addr}
theorem OwnAt.grow (h : OwnAt F H d a) (n : ¬ g.own a) (G : Grow g H F H' F') : OwnAt F' H' d a := by
  cases d with
  | lst ds => obtain ⟨vs, e, r⟩ := h; exact ⟨vs, G.hh _ _ n e, RepFs.mono G.ff ds vs r⟩
  | dk kvs => obtain ⟨ks, e, r⟩ := h; exact ⟨ks, G.hh _ _ n e, RepK.mono G.ff kvs ks r⟩
  | dt kvs => obtain ⟨ks, e, r⟩ := h; exact ⟨ks, G.hh _ _ n e, RepT.mono G.ff kvs ks r⟩
  | non => exact h.elim
  | bl _ => exact h.elim
  | int _ => exact h.elim
  | str _ => exact h.elim
  | ref _ => exact h.elim
  | ty _ => exact h.elim
  | tup _ => exact h.elim
theorem OwnAt.some (h : OwnAt F H d a) : H a ≠ none := by
  cases d with
  | lst ds => obtain ⟨vs, e, r⟩ := h; exact some_ne e
  | dk kvs => obtain ⟨ks, e, r⟩ := h; exact some_ne e
  | dt kvs => obtain ⟨ks, e, r⟩ := h; exact some_ne e
  | non => exact h.elim
  | bl _ => exact h.elim
  | int _ => exact h.elim
  | str _ => exact h.elim
  | ref _ => exact h.elim
  | ty _ => exact h.elim
  | tup _ => exact h.elim
theorem BRep.grow (h : BRep g F H d v) (G : Grow g H F H' F') : BRep g F' H' d v := by
  rcases h with h | ⟨a, e, n, h⟩
  · exact .inl (RepF.mono G.ff _ _ h)
  · exact .inr ⟨a, e, n, h.grow n G⟩
/-- what is borrowed, over the whole heap -/
theorem BRep.whole (h : BRep g F H d v) (s : Sub F H) : RepF H d v := by
  rcases h with h | ⟨a, e, n, h⟩
  · exact RepF.mono s _ _ h
  · subst e
    cases d with
    | lst ds => obtain ⟨vs, e, r⟩ := h; exact ⟨a, vs, rfl, e, RepFs.mono s _ _ r⟩
    | dk kvs => obtain ⟨ks, e, r⟩ := h; exact ⟨a, ks, rfl, e, RepK.mono s _ _ r⟩
    | dt kvs => obtain ⟨ks, e, r⟩ := h; exact ⟨a, ks, rfl, e, RepT.mono s _ _ r⟩
    | non => exact h.elim
    | bl _ => exact h.elim
    | int _ => exact h.elim
    | str _ => exact h.elim
    | ref _ => exact h.elim
    | ty _ => exact h.elim
    | tup _ => exact h.elim
theorem BRep.lst {ds : List D} (h : BRep g F H (.lst ds) v) (s : Sub F H) : ∃ a vs, v = .ref a ∧ H a = some (.lst vs) ∧ RepFs F ds vs := by
  rcases h with ⟨a, vs, e, q, r⟩ | ⟨a, e, n, vs, q, r⟩
  · exact ⟨a, vs, e, s _ _ q, r⟩
  · exact ⟨a, vs, e, q, r⟩
theorem BRep.tup {ds : List D} (h : BRep g F H (.tup ds) v) (s : Sub F H) : ∃ a vs, v = .ref a ∧ H a = some (.tup vs) ∧ F a = some (.tup vs) ∧ RepFs F ds vs := by
  rcases h with ⟨a, vs, e, q, r⟩ | ⟨a, e, n, h⟩
  · exact ⟨a, vs, e, s _ _ q, q, r⟩
  · exact h.elim
theorem BRep.int {i : Int} (h : BRep g F H (.int i) v) : v = .int i := by
  rcases h with h | ⟨a, e, n, h⟩
  · exact h
  · exact h.elim
theorem BRep.bl {i : Bool} (h : BRep g F H (.bl i) v) : v = .bl i := by
  rcases h with h | ⟨a, e, n, h⟩
  · exact h
  · exact h.elim
theorem BRep.str {i : Str} (h : BRep g F H (.str i) v) : v = .str i := by
  rcases h with h | ⟨a, e, n, h⟩
  · exact h
  · exact h.elim
theorem BRep.ty {t : Ty} (h : BRep g F H (.ty t) v) : v = .ty t.name := by
  rcases h with h | ⟨a, e, n, h⟩
  · exact h
  · exact h.elim
theorem BRep.non (h : BRep g F H .non v) : v = .non := by
  rcases h with h | ⟨a, e, n, h⟩
  · exact h
  · exact h.elim
theorem BRep.ref {a : Addr} (h : BRep g F H (.ref a) v) : v = .ref a := by
  rcases h with h | ⟨a, e, n, h⟩
  · exact h
  · exact h.elim
theorem SlotOk.grow {s : Sl} {o : Option V} (h : SlotOk g H0 F H s o) (G : Grow g H F H' F') : SlotOk g H0 F' H' s o := by
  cases s with
  | no => trivial
  | sh d => obtain ⟨v, e, r⟩ := h; exact ⟨v, e, RepF.mono G.ff _ _ r⟩
  | ow d => obtain ⟨a, e, n, f, no, r⟩ := h; exact ⟨a, e, n, (G.nw a r.some).trans f, no, r.grow no G⟩
theorem Sta.grow (S : Sta g H0 F0 ρ F σ H) (G : Grow g H F H' F') : Sta g H0 F0 ρ F' σ H' :=
  ⟨S.gr.trans G, fun a h => G.os a (S.go a h), fun a h => (G.nw a (S.go a h)).trans (S.gf a h), S.len, fun i s e => let ⟨o, e', k⟩ := S.sl i s e; ⟨o, e', k.grow G⟩, S.inj⟩
theorem Sta.fh (S : Sta g H0 F0 ρ F σ H) : Sub F H := S.gr.fh
end

/-! ### results -/
inductive Exc | mk (C : Addr) (fld : Option D)
inductive Res (α : Type) | ok (a : α) | ex (e : Exc) | bad
inductive RZ (Z α : Type) | ok (a : α) (z : Z) | ex (e : Exc) (z : Z) | bad
@[inline] def Res.bind {α β : Type} (x : Res α) (f : α → Res β) : Res β := match x with
  | .ok a => f a
  | .ex e => .ex e
  | .bad => .bad
instance : Monad Res where
  pure := .ok
  bind := Res.bind
def RZ.bind {Z α β : Type} (x : RZ Z α) (f : α → Z → RZ Z β) : RZ Z β := match x with
  | .ok a z => f a z
  | .ex e z => .ex e z
  | .bad => .bad
def Res.at {Z α : Type} (x : Res α) (z : Z) : RZ Z α := match x with
  | .ok a => .ok a z
  | .ex e => .ex e z
  | .bad => .bad
def RZ.nox {Z α : Type} (x : RZ Z α) : RZ Z α := match x with
  | .ok a z => .ok a z
  | _ => .bad
class Eff (m : Type → Type) (Z : outParam Type) extends Monad m where
  lift : {α : Type} → Res α → m α
  run : {α : Type} → m α → Z → RZ Z α
  run_pure : ∀ {α : Type} (a : α) (z : Z), run (pure a) z = .ok a z
  run_bind : ∀ {α β : Type} (x : m α) (f : α → m β) (z : Z), run (x >>= f) z = (run x z).bind fun a z' => run (f a) z'
  run_lift : ∀ {α : Type} (x : Res α) (z : Z), run (lift x) z = x.at z
  /-- what raises is bad -/
  nox : {α : Type} → m α → m α
  run_nox : ∀ {α : Type} (x : m α) (z : Z), run (nox x) z = (run x z).nox
def Res.nox {α : Type} (x : Res α) : Res α := match x with
  | .ok a => .ok a
  | _ => .bad
instance : Eff Res Unit where
  nox := Res.nox
  run_nox x z := by cases x <;> rfl
  lift x := x
  run x z := x.at z
  run_pure _ _ := rfl
  run_bind x f z := by cases x <;> rfl
  run_lift _ _ := rfl

/-! ### contexts -/
structure Ct (ι Z : Type) where
  X : ι → Cx
  P : Program
  w : World
  K : PySem.W.Frag
  mg : Str → Option Value
  base : Heap
  CX : CXT
  E : XK
  xr : Exc → Value → Option Addr → Hp → Hp → Prop
  g : Cg Z
  k : Nat
  hP : ∀ i, (X i).prog = P
  hw : ∀ i, (X i).w = w
  hK : ∀ i, (X i).K = K
  hm : ∀ i, (X i).mg = mg
  hb : ∀ i, (X i).base = base
  calm : ∀ i, (X i).calm = true
  room : ∀ i, Room k (X i).A
  nd : ∀ i, (X i).N.Nodup
  hx : ∀ i, Passes CX (X i) E
  hx0 : ∀ X : Cx, X.prog = P → X.w = w → Passes CX X E0
section
variable {ι Z : Type} {m : Type → Type} [Eff m Z] (c : Ct ι Z)
/-- what is wanted of an end that raises; bad ends are never reached -/
def OkP (H0 F0 : Hp) {α : Type} (r : RZ Z α) (p : α → Z → Prop) : Prop := match r with
  | .ok a z => p a z
  | .ex e z => ∀ cls dx H' F', Grow c.g H0 F0 H' F' → c.g.rep z H' → c.xr e cls dx F' H' → c.E cls dx H'
  | .bad => False
variable {c} {H0 F0 : Hp} {α β : Type}
theorem OkP.imp {r : RZ Z α} {p q : α → Z → Prop} (h : OkP c H0 F0 r p) (k : ∀ a z, p a z → q a z) : OkP c H0 F0 r q := by
  cases r with
  | ok a z => exact k _ _ h
  | ex e z => exact h
  | bad => exact h
theorem OkP.bind {x : m α} {f : α → m β} {z : Z} {p : β → Z → Prop} (h : OkP c H0 F0 (Eff.run (x >>= f) z) p) : OkP c H0 F0 (Eff.run x z) fun a z' => OkP c H0 F0 (Eff.run (f a) z') p := by
  rw [Eff.run_bind] at h
  cases q : Eff.run x z with
  | ok a z' => rw [q] at h; exact h
  | ex e z' => rw [q] at h; exact h
  | bad => rw [q] at h; exact h
theorem OkP.pure {a : α} {z : Z} {p : α → Z → Prop} (h : OkP c H0 F0 (Eff.run (Pure.pure a : m α) z) p) : p a z := by rw [Eff.run_pure] at h; exact h
variable (c)
def EvE (e : Expr) (f : Sto → m D) : Prop := ∃ t : TE, (∀ i, PE (c.X i) e t) ∧ ∀ (H0 F0 : Hp) (ρ : Sto) (F : Hp) (σ : L2.St) (H : Hp) (z : Z) (Q : VK), Sta c.g H0 F0 ρ F σ H → c.g.rep z H →
  OkP c H0 F0 (Eff.run (f ρ) z) (fun d z' => ∀ v H' F', Grow c.g H F H' F' → c.g.rep z' H' → RepF F' d v → Q v H') → t σ H Q
def EvB (e : Expr) (f : Sto → m D) : Prop := ∃ t : TE, (∀ i, PE (c.X i) e t) ∧ ∀ (H0 F0 : Hp) (ρ : Sto) (F : Hp) (σ : L2.St) (H : Hp) (z : Z) (Q : VK), Sta c.g H0 F0 ρ F σ H → c.g.rep z H →
  OkP c H0 F0 (Eff.run (f ρ) z) (fun d z' => ∀ v H' F', Grow c.g H F H' F' → c.g.rep z' H' → BRep c.g F' H' d v → Q v H') → t σ H Q
def EvO (e : Expr) (f : Sto → m D) : Prop := ∃ t : TE, (∀ i, PE (c.X i) e t) ∧ ∀ (H0 F0 : Hp) (ρ : Sto) (F : Hp) (σ : L2.St) (H : Hp) (z : Z) (Q : VK), Sta c.g H0 F0 ρ F σ H → c.g.rep z H →
  OkP c H0 F0 (Eff.run (f ρ) z) (fun d z' => ∀ a H' F', Grow c.g H F H' F' → c.g.rep z' H' → H a = none → F' a = none → OwnAt F' H' d a → Q (.ref a) H') → t σ H Q
def EvT (e : Expr) (f : Sto → m Bool) : Prop := ∃ t : TT, (∀ i, PT (c.X i) e t) ∧ ∀ (H0 F0 : Hp) (ρ : Sto) (F : Hp) (σ : L2.St) (H : Hp) (z : Z) (Q : Bool → Hp → Prop), Sta c.g H0 F0 ρ F σ H → c.g.rep z H →
  OkP c H0 F0 (Eff.run (f ρ) z) (fun b z' => ∀ H' F', Grow c.g H F H' F' → c.g.rep z' H' → Q b H') → t σ H Q
def BReps (g : Cg Z) (F H : Hp) : List D → List V → Prop
  | [], vs => vs = []
  | d :: ds, vs => ∃ v r, vs = v :: r ∧ BRep g F H d v ∧ BReps g F H ds r
def EvA (es : List Expr) (f : Sto → m (List D)) : Prop := ∃ t : TA, (∀ i, PA (c.X i) es t) ∧ ∀ (H0 F0 : Hp) (ρ : Sto) (F : Hp) (σ : L2.St) (H : Hp) (z : Z) (Q : List V → Hp → Prop), Sta c.g H0 F0 ρ F σ H → c.g.rep z H →
  OkP c H0 F0 (Eff.run (f ρ) z) (fun ds z' => ∀ vs H' F', Grow c.g H F H' F' → c.g.rep z' H' → BReps c.g F' H' ds vs → Q vs H') → t σ H Q
/-- all arguments frozen -/
def EvAF (es : List Expr) (f : Sto → m (List D)) : Prop := ∃ t : TA, (∀ i, PA (c.X i) es t) ∧ ∀ (H0 F0 : Hp) (ρ : Sto) (F : Hp) (σ : L2.St) (H : Hp) (z : Z) (Q : List V → Hp → Prop), Sta c.g H0 F0 ρ F σ H → c.g.rep z H →
  OkP c H0 F0 (Eff.run (f ρ) z) (fun ds z' => ∀ vs H' F', Grow c.g H F H' F' → c.g.rep z' H' → RepFs F' ds vs → Q vs H') → t σ H Q
end
end Vf

namespace Vf
open PySem L2
section
variable {ι Z : Type} {m : Type → Type} [Eff m Z] {c : Ct ι Z} {g : Cg Z}
def bad {α : Type} : m α := Eff.lift .bad
theorem OkP.badF {H0 F0 : Hp} {α : Type} {z : Z} {p : α → Z → Prop} (h : OkP c H0 F0 (Eff.run (bad : m α) z) p) : False := by
  unfold bad at h; rw [Eff.run_lift] at h; exact h
theorem OkP.lift {H0 F0 : Hp} {α : Type} {x : Res α} {z : Z} {p : α → Z → Prop} (h : OkP c H0 F0 (Eff.run (Eff.lift x : m α) z) p) : OkP c H0 F0 (x.at z) p := by
  rw [Eff.run_lift] at h; exact h
/-- a pure end that raises nothing -/
def Res.Is {α : Type} (r : Res α) (p : α → Prop) : Prop := match r with
  | .ok a => p a
  | _ => False
/-- where only results are ok or bad -/
def Res.Tame {α : Type} (r : Res α) : Prop := match r with
  | .ex _ => False
  | _ => True
theorem OkP.is {H0 F0 : Hp} {α : Type} {x : Res α} {z : Z} {p : α → Z → Prop} (h : OkP c H0 F0 (Eff.run (Eff.lift x : m α) z) p) (t : x.Tame) : ∃ a, x = .ok a ∧ p a z := by
  have h := h.lift
  cases x with
  | ok a => exact ⟨a, rfl, h⟩
  | ex e => exact t.elim
  | bad => exact h.elim

/-! ### names, constants -/
def eVar (i : Nat) : Sto → m D := fun ρ => match ρ[i]? with
  | some (.sh d) => pure d
  | _ => bad
def eVarB (i : Nat) : Sto → m D := fun ρ => match ρ[i]? with
  | some (.sh d) => pure d
  | some (.ow d) => pure d
  | _ => bad
def eC (d : D) : Sto → m D := fun _ => pure d
theorem ev_var (i : Nat) {x : Str} {pos : Pos} (hN : ∀ j, (c.X j).N[i]? = some x) (hv : ∀ j, Vis (c.X j).env.scope x) (hd : (x == ("__debug__" : Str)) = false) (hcd : (x == ("__classdict__" : Str)) = false) :
    EvE (m := m) c (.Name x pos) (eVar i) := by
  refine ⟨tVar i, fun j => pe_var (hN j) (hv j) hd hcd, fun H0 F0 ρ F σ H z Q S rz h => ?_⟩
  unfold eVar at h
  cases e : ρ[i]? with
  | none => rw [e] at h; exact h.badF.elim
  | some s =>
    rw [e] at h
    cases s with
    | no => exact h.badF.elim
    | ow d => exact h.badF.elim
    | sh d =>
      obtain ⟨o, eo, v, ev, r⟩ := S.sl i _ e
      subst ev
      exact ⟨v, eo, h.pure v H F (Grow.refl S.fh) rz r⟩
theorem eb_var (i : Nat) {x : Str} {pos : Pos} (hN : ∀ j, (c.X j).N[i]? = some x) (hv : ∀ j, Vis (c.X j).env.scope x) (hd : (x == ("__debug__" : Str)) = false) (hcd : (x == ("__classdict__" : Str)) = false) :
    EvB (m := m) c (.Name x pos) (eVarB i) := by
  refine ⟨tVar i, fun j => pe_var (hN j) (hv j) hd hcd, fun H0 F0 ρ F σ H z Q S rz h => ?_⟩
  unfold eVarB at h
  cases e : ρ[i]? with
  | none => rw [e] at h; exact h.badF.elim
  | some s =>
    rw [e] at h
    cases s with
    | no => exact h.badF.elim
    | ow d =>
      obtain ⟨o, eo, a, ev, n0, nf, no, r⟩ := S.sl i _ e
      subst ev
      exact ⟨.ref a, eo, h.pure _ H F (Grow.refl S.fh) rz (.inr ⟨a, rfl, no, r⟩)⟩
    | sh d =>
      obtain ⟨o, eo, v, ev, r⟩ := S.sl i _ e
      subst ev
      exact ⟨v, eo, h.pure v H F (Grow.refl S.fh) rz (.inl r)⟩
theorem ev_const {e : Expr} {d : D} {v : V} (hp : ∀ i, PE (c.X i) e (tC v)) (hr : ∀ F, RepF F d v) : EvE (m := m) c e (eC d) :=
  ⟨tC v, hp, fun H0 F0 ρ F σ H z Q S rz h => (show Q v H from (OkP.pure (c := c) h) v H F (Grow.refl S.fh) rz (hr F))⟩
theorem ev_int {i : Int} {j pos} : EvE (m := m) c (.Constant (.int i) j pos) (eC (.int i)) := ev_const (fun _ => pe_int) fun _ => rfl
theorem ev_bl {b : Bool} {j pos} : EvE (m := m) c (.Constant (.bool b) j pos) (eC (.bl b)) := ev_const (fun _ => pe_bl) fun _ => rfl
theorem ev_non {j pos} : EvE (m := m) c (.Constant .none j pos) (eC .non) := ev_const (fun _ => pe_non) fun _ => rfl
theorem ev_str {s : Str} {j pos} : EvE (m := m) c (.Constant (.str s) j pos) (eC (.str s)) := ev_const (fun _ => pe_str) fun _ => rfl
theorem ev_gint {x : Str} {i : Int} {t : Tok} {pos : Pos} (hg : ∀ j, Gl (c.X j) x) (hm : c.mg x = some (.int i t)) (hd : (x == ("__debug__" : Str)) = false) : EvE (m := m) c (.Name x pos) (eC (.int i)) :=
  ev_const (v := .int i) (fun j => pe_glob (hg j) (by rw [c.hm]; exact hm) ⟨t, rfl⟩ hd) fun _ => rfl
theorem EvE.toB {e : Expr} {f : Sto → m D} (h : EvE c e f) : EvB c e f := by
  obtain ⟨t, p, k⟩ := h
  exact ⟨t, p, fun H0 F0 ρ F σ H z Q S rz h => k H0 F0 ρ F σ H z Q S rz (h.imp fun d z' h v H' F' G rz' r => h v H' F' G rz' (.inl r))⟩
theorem EvO.toB {e : Expr} {f : Sto → m D} (h : EvO c e f) : EvB c e f := by
  obtain ⟨t, p, k⟩ := h
  exact ⟨t, p, fun H0 F0 ρ F σ H z Q S rz h => k H0 F0 ρ F σ H z Q S rz (h.imp fun d z' h a H' F' G rz' n nf r => h _ H' F' G rz' (.inr ⟨a, rfl, fun o => S.go a o n, r⟩))⟩
/-- an own thing is frozen -/
theorem freeze {F H : Hp} {d : D} {a : Addr} (fh : Sub F H) (nf : F a = none) (r : OwnAt F H d a) : ∃ o, H a = some o ∧ RepF (upd F a o) d (.ref a) := by
  have sub : ∀ o, Sub F (upd F a o) := fun o b u e => by rw [upd_ne (ne_of_none e nf)]; exact e
  cases d with
  | lst ds =>
    obtain ⟨vs, e, r⟩ := r
    exact ⟨_, e, a, vs, rfl, upd_same, RepFs.mono (sub _) _ _ r⟩
  | dk kvs =>
    obtain ⟨ks, e, r⟩ := r
    exact ⟨_, e, a, ks, rfl, upd_same, RepK.mono (sub _) _ _ r⟩
  | dt kvs =>
    obtain ⟨ks, e, r⟩ := r
    exact ⟨_, e, a, ks, rfl, upd_same, RepT.mono (sub _) _ _ r⟩
  | non => exact r.elim
  | bl _ => exact r.elim
  | int _ => exact r.elim
  | str _ => exact r.elim
  | ref _ => exact r.elim
  | ty _ => exact r.elim
  | tup _ => exact r.elim
theorem Grow.freeze {H F H' F' : Hp} {a : Addr} {o : HO} (G : Grow g H F H' F') (n : H a = none) (nf : F' a = none) (e : H' a = some o) : Grow g H F H' (upd F' a o) := by
  refine ⟨G.hh, G.os, fun b u q => ?_, fun b u q => ?_, fun b q => ?_⟩
  · have q' := G.ff _ _ q
    rw [upd_ne (ne_of_none q' nf)]; exact q'
  · by_cases z : b = a
    · subst z; rw [upd_same] at q; cases q; exact e
    · rw [upd_ne z] at q; exact G.fh _ _ q
  · have z : b ≠ a := fun z => q (z ▸ n)
    rw [upd_ne z]; exact G.nw b q
theorem EvO.toE {e : Expr} {f : Sto → m D} (h : EvO c e f) : EvE c e f := by
  obtain ⟨t, p, k⟩ := h
  refine ⟨t, p, fun H0 F0 ρ F σ H z Q S rz h => k H0 F0 ρ F σ H z Q S rz (h.imp fun d z' h a H' F' G rz' n nf r => ?_)⟩
  obtain ⟨o, e, r'⟩ := Vf.freeze G.fh nf r
  exact h _ H' _ (G.freeze n nf e) rz' r'

/-! ### operators by values -/
def Op2 (g : Cg Z) (r : R2) (f : D → D → Res D) : Prop := ∀ (F H : Hp) (x y : V) (d e : D) (Q : VK), Sub F H → BRep g F H d x → BRep g F H e y →
  ((f d e).Tame ∧ ∀ a, f d e = .ok a → (∀ v H' F', Grow g0 H F H' F' → RepF F' a v → Q v H') → r x y H Q)
def e2 (f : D → D → Res D) (a b : Sto → m D) : Sto → m D := fun ρ => do
  let x ← a ρ
  let y ← b ρ
  Eff.lift (f x y)
/-- two operands, then an operator -/
theorem two {ta tb : TE} {fa fb : Sto → m D} {r : R2} {f : D → D → Res D} (hf : Op2 c.g r f) {H0 F0 : Hp} {ρ : Sto} {F : Hp} {σ : L2.St} {H : Hp} {z : Z} {Q : VK}
    (ka : ∀ (H0 F0 : Hp) (ρ : Sto) (F : Hp) (σ : L2.St) (H : Hp) (z : Z) (Q : VK), Sta c.g H0 F0 ρ F σ H → c.g.rep z H → OkP c H0 F0 (Eff.run (fa ρ) z) (fun d z' => ∀ v H' F', Grow c.g H F H' F' → c.g.rep z' H' → BRep c.g F' H' d v → Q v H') → ta σ H Q)
    (kb : ∀ (H0 F0 : Hp) (ρ : Sto) (F : Hp) (σ : L2.St) (H : Hp) (z : Z) (Q : VK), Sta c.g H0 F0 ρ F σ H → c.g.rep z H → OkP c H0 F0 (Eff.run (fb ρ) z) (fun d z' => ∀ v H' F', Grow c.g H F H' F' → c.g.rep z' H' → BRep c.g F' H' d v → Q v H') → tb σ H Q)
    (S : Sta c.g H0 F0 ρ F σ H) (rz : c.g.rep z H) (h : OkP c H0 F0 (Eff.run (e2 f fa fb ρ) z) (fun d z' => ∀ v H' F', Grow c.g H F H' F' → c.g.rep z' H' → RepF F' d v → Q v H')) : tOp r ta tb σ H Q := by
  refine ka _ _ _ _ _ _ _ _ S rz (h.bind.imp fun d z1 h v H1 F1 G1 rz1 r1 => ?_)
  have S1 := S.grow G1
  refine kb _ _ _ _ _ _ _ _ S1 rz1 (h.bind.imp fun e z2 h w H2 F2 G2 rz2 r2 => ?_)
  have S2 := S1.grow G2
  obtain ⟨tm, k⟩ := hf F2 H2 v w d e Q S2.fh (r1.grow G2) r2
  obtain ⟨a, ea, h⟩ := h.is tm
  exact k a ea fun v' H' F' G r => h v' H' F' (G1.trans (G2.trans G.of0)) (G.rep0 S2.go rz2) r
theorem ev_bin {op : Operator} {r : R2} {f : D → D → Res D} {a b : Expr} {fa fb : Sto → m D} {pos : Pos} (ho : ∀ i, OpR (c.X i) (binaryOp op) r) (hf : Op2 c.g r f) (ha : EvB c a fa) (hb : EvB c b fb) : EvE c (.BinOp a op b pos) (e2 f fa fb) := by
  obtain ⟨ta, pa, ka⟩ := ha
  obtain ⟨tb, pb, kb⟩ := hb
  exact ⟨_, fun i => pe_op (ho i) (pa i) (pb i), fun H0 F0 ρ F σ H z Q S rz h => two hf ka kb S rz h⟩
theorem ev_cmp {op : CmpOp} {r : R2} {f : D → D → Res D} {a b : Expr} {fa fb : Sto → m D} {pos : Pos} (ho : ∀ i, OpR (c.X i) (compareOp op) r) (hm : behindInMarks op b = false) (hf : Op2 c.g r f) (ha : EvB c a fa) (hb : EvB c b fb) :
    EvE c (.Compare a [op] [b] pos) (e2 f fa fb) := by
  obtain ⟨ta, pa, ka⟩ := ha
  obtain ⟨tb, pb, kb⟩ := hb
  exact ⟨_, fun i => pe_cmpR (ho i) (pa i) (pb i) hm, fun H0 F0 ρ F σ H z Q S rz h => two hf ka kb S rz h⟩
theorem ev_ix {r : R2} {f : D → D → Res D} {a b : Expr} {fa fb : Sto → m D} {pos : Pos} (ho : ∀ i, IxR (c.X i) r) (hs : PlainIx b) (hf : Op2 c.g r f) (ha : EvB c a fa) (hb : EvB c b fb) :
    EvE c (.Subscript a b pos) (e2 f fa fb) := by
  obtain ⟨ta, pa, ka⟩ := ha
  obtain ⟨tb, pb, kb⟩ := hb
  exact ⟨_, fun i => pe_ix (ho i) (pa i) (pb i) hs, fun H0 F0 ρ F σ H z Q S rz h => two hf ka kb S rz h⟩

/-! ### tests -/
def asB (d : D) : Res Bool := match d with
  | .bl b => .ok b
  | _ => .bad
def tV (f : Sto → m D) : Sto → m Bool := fun ρ => do
  let d ← f ρ
  Eff.lift (asB d)
theorem evt_val {e : Expr} {f : Sto → m D} (h : EvE c e f) (he : ∀ i whole, isTrue e (c.X i).env whole = (do let v ← whole; standAt e.pos; holding [v] (truthy v))) : EvT c e (tV f) := by
  obtain ⟨t, p, k⟩ := h
  refine ⟨_, fun i => pt_val (p i) (he i), fun H0 F0 ρ F σ H z Q S rz h => ?_⟩
  refine k _ _ _ _ _ _ _ _ S rz (h.bind.imp fun d z' h v H' F' G rz' r => ?_)
  cases d with
  | bl b =>
    have h := h.lift
    exact ⟨b, r, h H' F' G rz'⟩
  | _ => exact h.lift.elim
/-- a comparison as a test -/
theorem evt_cmp {op : CmpOp} {r : R2} {f : D → D → Res D} {a b : Expr} {fa fb : Sto → m D} {pos : Pos} (ho : ∀ i, OpR (c.X i) (compareOp op) r) (hm : behindInMarks op b = false) (hf : Op2 c.g r f) (ha : EvB c a fa) (hb : EvB c b fb) :
    EvT c (.Compare a [op] [b] pos) (tV (e2 f fa fb)) := by
  obtain ⟨ta, pa, ka⟩ := ha
  obtain ⟨tb, pb, kb⟩ := hb
  refine ⟨_, fun i => pt_cmpR (ho i) (pa i) (pb i) hm, fun H0 F0 ρ F σ H z Q S rz h => ?_⟩
  refine two hf ka kb S rz (h.bind.imp fun d z' h v H' F' G rz' r => ?_)
  cases d with
  | bl b =>
    have h := h.lift
    exact ⟨b, r, h H' F' G rz'⟩
  | _ => exact h.lift.elim
def EvW (c : Ct ι Z) (e : Expr) (f : Sto → m Bool) : Prop := ∃ t : TT, (∀ i, PW (c.X i) e t) ∧ ∀ (H0 F0 : Hp) (ρ : Sto) (F : Hp) (σ : L2.St) (H : Hp) (z : Z) (Q : Bool → Hp → Prop), Sta c.g H0 F0 ρ F σ H → c.g.rep z H →
  OkP c H0 F0 (Eff.run (f ρ) z) (fun b z' => ∀ H' F', Grow c.g H F H' F' → c.g.rep z' H' → Q b H') → t σ H Q
theorem EvW.t {e : Expr} {f : Sto → m Bool} (h : EvW c e f) : EvT c e f := let ⟨t, p, k⟩ := h; ⟨t, fun i => (p i).pt, k⟩
theorem evw_and1 {a : Expr} {fa : Sto → m Bool} {pos : Pos} (ha : EvT c a fa) : EvW c (.BoolOp .And [a] pos) fa := let ⟨t, p, k⟩ := ha; ⟨t, fun i => pw_and1 (p i), k⟩
theorem evw_or1 {a : Expr} {fa : Sto → m Bool} {pos : Pos} (ha : EvT c a fa) : EvW c (.BoolOp .Or [a] pos) fa := let ⟨t, p, k⟩ := ha; ⟨t, fun i => pw_or1 (p i), k⟩
def tAnd' (a b : Sto → m Bool) : Sto → m Bool := fun ρ => do
  let x ← a ρ
  if x then b ρ else pure false
def tOr' (a b : Sto → m Bool) : Sto → m Bool := fun ρ => do
  let x ← a ρ
  if x then pure true else b ρ
def tNot' (a : Sto → m Bool) : Sto → m Bool := fun ρ => do
  let x ← a ρ
  pure (!x)
theorem evw_and {a b : Expr} {rest : List Expr} {fa fb : Sto → m Bool} {pos : Pos} (ha : EvT c a fa) (hb : EvW c (.BoolOp .And (b :: rest) pos) fb) : EvW c (.BoolOp .And (a :: b :: rest) pos) (tAnd' fa fb) := by
  obtain ⟨ta, pa, ka⟩ := ha
  obtain ⟨tb, pb, kb⟩ := hb
  refine ⟨_, fun i => pw_and (pa i) (pb i), fun H0 F0 ρ F σ H z Q S rz h => ?_⟩
  refine ka _ _ _ _ _ _ _ _ S rz (h.bind.imp fun x z1 h H1 F1 G1 rz1 => ?_)
  cases x with
  | true => exact iteT (kb _ _ _ _ _ _ _ _ (S.grow G1) rz1 (h.imp fun y z2 h H2 F2 G2 rz2 => h H2 F2 (G1.trans G2) rz2))
  | false => exact iteF ((OkP.pure (c := c) h) H1 F1 G1 rz1)
theorem evw_or {a b : Expr} {rest : List Expr} {fa fb : Sto → m Bool} {pos : Pos} (ha : EvT c a fa) (hb : EvW c (.BoolOp .Or (b :: rest) pos) fb) : EvW c (.BoolOp .Or (a :: b :: rest) pos) (tOr' fa fb) := by
  obtain ⟨ta, pa, ka⟩ := ha
  obtain ⟨tb, pb, kb⟩ := hb
  refine ⟨_, fun i => pw_or (pa i) (pb i), fun H0 F0 ρ F σ H z Q S rz h => ?_⟩
  refine ka _ _ _ _ _ _ _ _ S rz (h.bind.imp fun x z1 h H1 F1 G1 rz1 => ?_)
  cases x with
  | true => exact iteT ((OkP.pure (c := c) h) H1 F1 G1 rz1)
  | false => exact iteF (kb _ _ _ _ _ _ _ _ (S.grow G1) rz1 (h.imp fun y z2 h H2 F2 G2 rz2 => h H2 F2 (G1.trans G2) rz2))
theorem evt_not {a : Expr} {fa : Sto → m Bool} {pos : Pos} (ha : EvT c a fa) : EvT c (.UnaryOp .Not a pos) (tNot' fa) := by
  obtain ⟨ta, pa, ka⟩ := ha
  refine ⟨_, fun i => pt_not (pa i), fun H0 F0 ρ F σ H z Q S rz h => ?_⟩
  exact ka _ _ _ _ _ _ _ _ S rz (h.bind.imp fun x z1 h H1 F1 G1 rz1 => (OkP.pure (c := c) h) H1 F1 G1 rz1)
/-- and, or, not as values (bools) -/
def eAnd (a b : Sto → m D) : Sto → m D := fun ρ => do
  let d ← a ρ
  let x ← Eff.lift (asB d)
  if x then b ρ else pure (.bl false)
def eOr (a b : Sto → m D) : Sto → m D := fun ρ => do
  let d ← a ρ
  let x ← Eff.lift (asB d)
  if x then pure (.bl true) else b ρ
def eNot (a : Sto → m D) : Sto → m D := fun ρ => do
  let d ← a ρ
  let x ← Eff.lift (asB d)
  pure (.bl (!x))
theorem ev_one {op} {a : Expr} {fa : Sto → m D} {pos : Pos} (ha : EvE c a fa) : EvE c (.BoolOp op [a] pos) fa := let ⟨t, p, k⟩ := ha; ⟨t, fun i => pe_one (p i), k⟩
theorem asB_ok {d : D} {H0 F0 : Hp} {z : Z} {p : Bool → Z → Prop} (h : OkP c H0 F0 (Eff.run (Eff.lift (asB d) : m Bool) z) p) : ∃ b, d = .bl b ∧ p b z := by
  have h := h.lift
  cases d with
  | bl b => exact ⟨b, rfl, h⟩
  | _ => exact h.elim
theorem ev_and {a b : Expr} {rest : List Expr} {fa fb : Sto → m D} {pos : Pos} (ha : EvE c a fa) (hb : EvE c (.BoolOp .And (b :: rest) pos) fb) : EvE c (.BoolOp .And (a :: b :: rest) pos) (eAnd fa fb) := by
  obtain ⟨ta, pa, ka⟩ := ha
  obtain ⟨tb, pb, kb⟩ := hb
  refine ⟨_, fun i => pe_and (pa i) (pb i), fun H0 F0 ρ F σ H z Q S rz h => ?_⟩
  refine ka _ _ _ _ _ _ _ _ S rz (h.bind.imp fun d z1 h v H1 F1 G1 rz1 r => ?_)
  obtain ⟨x, ex, h2⟩ := asB_ok h.bind
  subst ex
  clear h
  refine ⟨x, r, ?_⟩
  cases x with
  | true => exact iteT (kb _ _ _ _ _ _ _ _ (S.grow G1) rz1 (h2.imp fun y z2 h v H2 F2 G2 rz2 => h v H2 F2 (G1.trans G2) rz2))
  | false => exact iteF ((OkP.pure (c := c) h2) _ H1 F1 G1 rz1 rfl)
theorem ev_or {a b : Expr} {rest : List Expr} {fa fb : Sto → m D} {pos : Pos} (ha : EvE c a fa) (hb : EvE c (.BoolOp .Or (b :: rest) pos) fb) : EvE c (.BoolOp .Or (a :: b :: rest) pos) (eOr fa fb) := by
  obtain ⟨ta, pa, ka⟩ := ha
  obtain ⟨tb, pb, kb⟩ := hb
  refine ⟨_, fun i => pe_or (pa i) (pb i), fun H0 F0 ρ F σ H z Q S rz h => ?_⟩
  refine ka _ _ _ _ _ _ _ _ S rz (h.bind.imp fun d z1 h v H1 F1 G1 rz1 r => ?_)
  obtain ⟨x, ex, h2⟩ := asB_ok h.bind
  subst ex
  clear h
  refine ⟨x, r, ?_⟩
  cases x with
  | true => exact iteT ((OkP.pure (c := c) h2) _ H1 F1 G1 rz1 rfl)
  | false => exact iteF (kb _ _ _ _ _ _ _ _ (S.grow G1) rz1 (h2.imp fun y z2 h v H2 F2 G2 rz2 => h v H2 F2 (G1.trans G2) rz2))
theorem ev_not {a : Expr} {fa : Sto → m D} {pos : Pos} (ha : EvE c a fa) : EvE c (.UnaryOp .Not a pos) (eNot fa) := by
  obtain ⟨ta, pa, ka⟩ := ha
  refine ⟨_, fun i => pe_not (pa i), fun H0 F0 ρ F σ H z Q S rz h => ?_⟩
  refine ka _ _ _ _ _ _ _ _ S rz (h.bind.imp fun d z1 h v H1 F1 G1 rz1 r => ?_)
  obtain ⟨x, ex, h2⟩ := asB_ok h.bind
  subst ex
  clear h
  exact ⟨x, r, (OkP.pure (c := c) h2) _ H1 F1 G1 rz1 rfl⟩
def eIf (t : Sto → m Bool) (a b : Sto → m D) : Sto → m D := fun ρ => do
  let x ← t ρ
  if x then a ρ else b ρ
theorem ev_if {t a b : Expr} {ft : Sto → m Bool} {fa fb : Sto → m D} {pos : Pos} (ht : EvT c t ft) (ha : EvE c a fa) (hb : EvE c b fb) : EvE c (.IfExp t a b pos) (eIf ft fa fb) := by
  obtain ⟨tt, pt, kt⟩ := ht
  obtain ⟨ta, pa, ka⟩ := ha
  obtain ⟨tb, pb, kb⟩ := hb
  refine ⟨_, fun i => pe_ifExp (pt i) (pa i) (pb i), fun H0 F0 ρ F σ H z Q S rz h => ?_⟩
  refine kt _ _ _ _ _ _ _ _ S rz (h.bind.imp fun x z1 h H1 F1 G1 rz1 => ?_)
  cases x with
  | true => exact iteT (ka _ _ _ _ _ _ _ _ (S.grow G1) rz1 (h.imp fun y z2 h v H2 F2 G2 rz2 => h v H2 F2 (G1.trans G2) rz2))
  | false => exact iteF (kb _ _ _ _ _ _ _ _ (S.grow G1) rz1 (h.imp fun y z2 h v H2 F2 G2 rz2 => h v H2 F2 (G1.trans G2) rz2))
/-- a < b < c -/
def eChain (f f' : D → D → Res D) (a b d : Sto → m D) : Sto → m D := fun ρ => do
  let x ← a ρ
  let y ← b ρ
  let t ← Eff.lift (f x y)
  let k ← Eff.lift (asB t)
  if k then do
    let w ← d ρ
    Eff.lift (f' y w)
  else pure (.bl false)
theorem ev_chain {op op' : CmpOp} {r r' : R2} {f f' : D → D → Res D} {a b d : Expr} {fa fb fd : Sto → m D} {pos : Pos} (ho : ∀ i, OpR (c.X i) (compareOp op) r) (ho' : ∀ i, OpR (c.X i) (compareOp op') r') (hf : Op2 c.g r f) (hf' : Op2 c.g r' f')
    (hp : ∀ i ta tb td, PE (c.X i) a ta → PE (c.X i) b tb → PE (c.X i) d td → PE (c.X i) (.Compare a [op, op'] [b, d] pos) (tChain r r' ta tb td))
    (ha : EvB c a fa) (hb : EvB c b fb) (hd : EvB c d fd) : EvE c (.Compare a [op, op'] [b, d] pos) (eChain f f' fa fb fd) := by
  obtain ⟨ta, pa, ka⟩ := ha
  obtain ⟨tb, pb, kb⟩ := hb
  obtain ⟨td, pd, kd⟩ := hd
  refine ⟨_, fun i => hp i ta tb td (pa i) (pb i) (pd i), fun H0 F0 ρ F σ H z Q S rz h => ?_⟩
  refine ka _ _ _ _ _ _ _ _ S rz (h.bind.imp fun x z1 h v H1 F1 G1 rz1 r1 => ?_)
  have S1 := S.grow G1
  refine kb _ _ _ _ _ _ _ _ S1 rz1 (h.bind.imp fun y z2 h w H2 F2 G2 rz2 r2 => ?_)
  have S2 := S1.grow G2
  obtain ⟨tm, k⟩ := hf F2 H2 v w x y (fun z H3 => ∃ k, z = .bl k ∧ (if k = true then td σ H3 fun w' H4 => r' w w' H4 Q else Q (.bl false) H3)) S2.fh (r1.grow G2) r2
  obtain ⟨t, et, h⟩ := h.bind.is tm
  refine k t et fun v' H3 F3 G3 r3 => ?_
  obtain ⟨b, eb, h2⟩ := asB_ok h.bind
  subst eb
  clear h
  have S3 := S2.grow G3.of0
  have rz3 := G3.rep0 S2.go rz2
  refine ⟨b, r3, ?_⟩
  have G13 := G1.trans (G2.trans (G3.of0 (g := c.g)))
  cases b with
  | false => exact iteF ((OkP.pure (c := c) h2) _ H3 F3 G13 rz3 rfl)
  | true =>
    refine iteT (kd _ _ _ _ _ _ _ _ S3 rz3 (h2.bind.imp fun u z4 h w' H4 F4 G4 rz4 r4 => ?_))
    have S4 := S3.grow G4
    obtain ⟨tm, k⟩ := hf' F4 H4 w w' y u Q S4.fh ((r2.grow G3.of0).grow G4) r4
    obtain ⟨q, eq, h⟩ := h.is tm
    exact k q eq fun v5 H5 F5 G5 r5 => h v5 H5 F5 (G13.trans (G4.trans G5.of0)) (G5.rep0 S4.go rz4) r5
end
end Vf

namespace Vf
open PySem L2

/-! ### data as the model's -/
mutual
def D.py : D → PyData
  | .non => .none
  | .bl b => .bool b
  | .int i => .int i
  | .str s => .str s
  | .ref _ => .none
  | .ty _ => .none
  | .tup xs => .tuple (D.pys xs)
  | .lst xs => .list (D.pys xs)
  | .dk _ => .none
  | .dt _ => .none
def D.pys : List D → List PyData
  | [] => []
  | d :: ds => d.py :: D.pys ds
end
mutual
def D.plain : D → Bool
  | .non => true
  | .bl _ => true
  | .int _ => true
  | .str s => PyData.strOk s
  | .ref _ => false
  | .ty _ => false
  | .tup xs => D.plains xs
  | .lst xs => D.plains xs
  | .dk _ => false
  | .dt _ => false
def D.plains : List D → Bool
  | [] => true
  | d :: ds => d.plain && D.plains ds
end
def D.data (d : D) : Bool := d.plain && decide (d.py.depth ≤ 64)
mutual
theorem D.lay0 : ∀ d : D, d.plain = true → d.py.canLay0 = true
  | .non, _ => rfl
  | .bl _, _ => rfl
  | .int _, _ => rfl
  | .str s, h => h
  | .tup xs, h => D.lays0 xs h
  | .lst xs, h => D.lays0 xs h
  | .ref _, h => by cases h
  | .ty _, h => by cases h
  | .dk _, h => by cases h
  | .dt _, h => by cases h
theorem D.lays0 : ∀ ds : List D, D.plains ds = true → PyData.canLayAll0 (D.pys ds) = true
  | [], _ => rfl
  | d :: ds, h => by
    have h' : (d.plain && D.plains ds) = true := h
    rw [Bool.and_eq_true] at h'
    show (d.py.canLay0 && PyData.canLayAll0 (D.pys ds)) = true
    rw [D.lay0 d h'.1, D.lays0 ds h'.2]; rfl
end
theorem D.shaped {d : D} (h : d.data = true) : SeqAt.shaped d.py = true := by
  unfold D.data at h
  rw [Bool.and_eq_true] at h
  unfold SeqAt.shaped
  rw [D.lay0 d h.1, h.2]; rfl
mutual
theorem RepF.dp {K : PySem.W.Frag} {H : Hp} : ∀ (d : D) (v : V), d.plain = true → RepF H d v → Dp K H v d.py
  | .non, _, _, h => by subst h; exact .non
  | .bl b, _, _, h => by subst h; exact .bl b
  | .int i, _, _, h => by subst h; exact .int i
  | .str s, _, _, h => by subst h; exact .str s
  | .tup xs, _, p, ⟨a, vs, e, q, r⟩ => by subst e; exact .tup (SqT.of q) (RepFs.dp xs vs p r)
  | .lst xs, _, p, ⟨a, vs, e, q, r⟩ => by subst e; exact .lst (SqL.of q) (RepFs.dp xs vs p r)
  | .ref _, _, p, _ => by cases p
  | .ty _, _, p, _ => by cases p
  | .dk _, _, p, _ => by cases p
  | .dt _, _, p, _ => by cases p
theorem RepFs.dp {K : PySem.W.Frag} {H : Hp} : ∀ (ds : List D) (vs : List V), D.plains ds = true → RepFs H ds vs → DpAll K H vs (D.pys ds)
  | [], _, _, h => by subst h; exact .nil
  | d :: ds, _, p, ⟨v, r, e, h, t⟩ => by
    subst e
    have p' : (d.plain && D.plains ds) = true := p
    rw [Bool.and_eq_true] at p'
    exact .cons (RepF.dp d v p'.1 h) (RepFs.dp ds r p'.2 t)
end
theorem D.data_plain {d : D} (h : d.data = true) : d.plain = true := by
  unfold D.data at h; rw [Bool.and_eq_true] at h; exact h.1

section
variable {ι Z : Type} {m : Type → Type} [Eff m Z] {c : Ct ι Z} {g : Cg Z}
abbrev lim : Nat := 16777216
theorem lim_eq : lim = sizeLine := sizeLine_eq.symm
/-- ints to a scalar -/
def fI (f : Int → Int → Res D) : D → D → Res D
  | .int i, .int j => f i j
  | _, _ => .bad
theorem op2_int {r : R2} {f : Int → Int → Res D} (t : ∀ i j, (f i j).Tame) (h : ∀ i j H Q a, f i j = .ok a → (∀ v, (∀ F, RepF F a v) → Q v H) → r (.int i) (.int j) H Q) : Op2 g r (fI f) := by
  intro F H x y d e Q s hx hy
  cases d with
  | int i =>
    cases e with
    | int j =>
      refine ⟨t i j, fun a ea k => ?_⟩
      rw [hx.int, hy.int]
      exact h i j H Q a ea fun v rv => k v H F (Grow.refl s) (rv F)
    | _ => exact ⟨trivial, fun a ea => nomatch ea⟩
  | _ => exact ⟨trivial, fun a ea => nomatch ea⟩
def addI : D → D → Res D := fI fun i j => .ok (.int (i + j))
theorem op2_addI : Op2 g (rI0 fun i j => .int (i + j)) addI := op2_int (fun _ _ => trivial) fun i j H Q a ea k => by cases ea; exact ⟨i, j, rfl, rfl, k _ fun _ => rfl⟩
def catT : D → D → Res D
  | .tup xs, .tup ys => if xs.length + ys.length ≤ lim then .ok (.tup (xs ++ ys)) else .bad
  | _, _ => .bad
theorem ite_tame {p : Prop} [Decidable p] {a : Res D} (h : a.Tame) : (if p then a else .bad : Res D).Tame := by split; exact h; trivial
theorem ite_ok {α : Type} {p : Prop} [Decidable p] {a : Res α} {b : α} (h : (if p then a else .bad : Res α) = .ok b) : p ∧ a = .ok b := by
  split at h
  · exact ⟨‹p›, h⟩
  · cases h
theorem op2_catT {K : PySem.W.Frag} : Op2 g (rCatA K) catT := by
  intro F H x y d e Q s hx hy
  cases d with
  | tup xs =>
    cases e with
    | tup ys =>
      refine ⟨ite_tame trivial, fun r er k => ?_⟩
      obtain ⟨hl, er⟩ := ite_ok er
      cases er
      obtain ⟨a, vs, rfl, qa, fa, ra⟩ := hx.tup s
      obtain ⟨b, ws, rfl, qb, fb, rb⟩ := hy.tup s
      refine ⟨a, b, vs, ws, rfl, rfl, SqT.of qa, SqT.of qb, ?_, fun e => ?_, fun ne e => ?_, fun ne ne' p hp => ?_⟩
      · rw [← ra.length, ← rb.length, ← lim_eq]; exact hl
      · subst e
        have : xs = [] := List.eq_nil_of_length_eq_zero ra.length
        subst this
        exact k _ H F (Grow.refl s) ⟨b, ws, rfl, fb, rb⟩
      · subst e
        have : ys = [] := List.eq_nil_of_length_eq_zero rb.length
        subst this
        rw [List.append_nil] at k
        exact k _ H F (Grow.refl s) ⟨a, vs, rfl, fa, ra⟩
      · have G := Grow.new (o := .tup (vs ++ ws)) s hp
        exact k _ _ _ G ⟨p, _, rfl, upd_same, (RepFs.mono G.ff _ _ ra).append (RepFs.mono G.ff _ _ rb)⟩
    | _ => exact ⟨trivial, fun a ea => nomatch ea⟩
  | _ => exact ⟨trivial, fun a ea => nomatch ea⟩
def catL : D → D → Res D
  | .lst xs, .lst ys => if xs.length + ys.length ≤ lim then .ok (.lst (xs ++ ys)) else .bad
  | _, _ => .bad
theorem op2_catL : Op2 g rCat catL := by
  intro F H x y d e Q s hx hy
  cases d with
  | lst xs =>
    cases e with
    | lst ys =>
      refine ⟨ite_tame trivial, fun r er k => ?_⟩
      obtain ⟨hl, er⟩ := ite_ok er
      cases er
      obtain ⟨a, vs, rfl, qa, ra⟩ := hx.lst s
      obtain ⟨b, ws, rfl, qb, rb⟩ := hy.lst s
      refine ⟨a, b, vs, ws, rfl, rfl, qa, qb, ?_, fun p hp => ?_⟩
      · rw [← ra.length, ← rb.length, ← lim_eq]; exact hl
      · have G := Grow.new (o := .lst (vs ++ ws)) s hp
        exact k _ _ _ G ⟨p, _, rfl, upd_same, (RepFs.mono G.ff _ _ ra).append (RepFs.mono G.ff _ _ rb)⟩
    | _ => exact ⟨trivial, fun a ea => nomatch ea⟩
  | _ => exact ⟨trivial, fun a ea => nomatch ea⟩
/-- a + b -/
def addD : D → D → Res D
  | .int i, .int j => .ok (.int (i + j))
  | .tup xs, .tup ys => if xs.length + ys.length ≤ lim then .ok (.tup (xs ++ ys)) else .bad
  | .lst xs, .lst ys => if xs.length + ys.length ≤ lim then .ok (.lst (xs ++ ys)) else .bad
  | _, _ => .bad
def rAddU (K : PySem.W.Frag) : R2 := fun x y H Q => (rI0 fun i j => .int (i + j)) x y H Q ∨ (rCatA K x y H Q ∨ rCat x y H Q)
theorem op_addU {X : Cx} : OpR X (binaryOp .Add) (rAddU X.K) := op_add.or (op_catA.or op_cat)
theorem op2_add {K : PySem.W.Frag} : Op2 g (rAddU K) addD := by
  intro F H x y d e Q s hx hy
  have i := op2_addI (g := g) F H x y d e Q s hx hy
  have t := op2_catT (g := g) (K := K) F H x y d e Q s hx hy
  have l := op2_catL (g := g) F H x y d e Q s hx hy
  cases d <;> cases e <;> first
    | exact ⟨i.1, fun a ea k => .inl (i.2 a ea k)⟩
    | exact ⟨t.1, fun a ea k => .inr (.inl (t.2 a ea k))⟩
    | exact ⟨l.1, fun a ea k => .inr (.inr (l.2 a ea k))⟩
    | exact ⟨trivial, fun a ea => nomatch ea⟩
def subD : D → D → Res D := fI fun i j => .ok (.int (i - j))
theorem op2_sub : Op2 g (rI0 fun i j => .int (i - j)) subD := op2_int (fun _ _ => trivial) fun i j H Q a ea k => by cases ea; exact ⟨i, j, rfl, rfl, k _ fun _ => rfl⟩
def small64 (i : Int) : Bool := decide (-18446744073709551616 < i) && decide (i < 18446744073709551616)
theorem small64_ok {i : Int} (h : small64 i = true) : -(2 ^ 64) < i ∧ i < 2 ^ 64 := by
  unfold small64 at h
  rw [Bool.and_eq_true, decide_eq_true_eq, decide_eq_true_eq] at h
  exact h
def mulI (i j : Int) : Res D := if small64 i || small64 j then .ok (.int (i * j)) else .bad
def repT (xs : List D) (k : Int) : Res D := if xs = [] ∨ k = 1 then (if -1000000 ≤ k ∧ k ≤ 1000000 then .ok (.tup xs) else .bad) else if 2 ≤ k ∧ k ≤ 1000 ∧ xs.length ≤ 1000 then .ok (.tup (List.replicate k.toNat xs).flatten) else .bad
def repL (xs : List D) (k : Int) : Res D := if -4611686018427387904 ≤ k ∧ k ≤ 4611686018427387904 ∧ xs.length * k.toNat ≤ lim then .ok (.lst (List.replicate k.toNat xs).flatten) else .bad

end
section
open PySem.Spec PyProof.Rows
theorem tuple_mul1 (l : Addr) (items : Array Value) (n : Nat) (dd : Option Addr) (sl : Array (Option Value)) (x : Int) (u : Tok) (c0 : (decide (x < -(2 ^ 63)) || decide (x ≥ 2 ^ 63)) = false) (c1 : (items.isEmpty || x == 1) = true) :
    Meets (Builtin.«tuple.__mul__» ⟨[.ref l, .int x u], []⟩) (fun _ R s => s.heap.get? l = some { cls := .type "tuple", dict := dd, data := .seq items n, slots := sl } ∧
      R (.ok (.ret (Value.ref l))) s) :=
  .of_wp fun prog w A R s h => by
    obtain ⟨hp, g, d, tk, os⟩ := s
    obtain ⟨hl, h⟩ := h
    have f1 := AutoSeq1.idx_int
    wp_walk using wpAny_loadPart' hl
    repeat (first
      | (refine wpAny_ite_false (decide_eq_false (by rw [c0]; exact Bool.false_ne_true)) ?_; wp_walk using wpAny_loadPart' hl)
      | (refine wpAny_ite_true (decide_eq_true c1) ?_; wp_walk using wpAny_loadPart' hl))
    exact ⟨_, rfl, h⟩
def rRepT1 (K : PySem.W.Frag) : R2 := fun x y H Q => ∃ l k xs, x = .ref l ∧ y = .int k ∧ SqT K H l xs ∧ (xs = [] ∨ k = 1) ∧ -1000000 ≤ k ∧ k ≤ 1000000 ∧ Q (.ref l) H
theorem op_repT1 {X : Cx} : OpR X (binaryOp .Mult) (rRepT1 X.K) := by
  intro pins s σ H x y v u Q I rx ry h
  obtain ⟨l, k, xs, rfl, rfl, hT, hne, h1, h2, q⟩ := h
  cases rx
  obtain ⟨t, rfl⟩ := ry
  obtain ⟨its, r, ⟨⟨cls, dd, data, sl⟩, ho, hc, n, hd⟩, hs⟩ := I.tuple hT
  simp only at hc hd
  subst hc hd
  have c0 : (decide (k < -(2 ^ 63)) || decide (k ≥ 2 ^ 63)) = false := by
    rw [decide_eq_false (by omega), decide_eq_false (by omega)] <;> rfl
  have c1 : (its.toArray.isEmpty || k == 1) = true := by
    rcases hne with e | e
    · subst e; cases r; rfl
    · subst e; simp
  refine wpAny_binaryOp_repeat_ref (T := "tuple") (U := "int") (by decide) ⟨_, ho, rfl⟩ (fun s' => typeIs_int s' k t) noFill_tuple_mul F.fills_int_mul F.slot_int_rmul repeat_tuple F.slot_int_index.lookup
    (call_meets F.slot_int_rmul (typeIs_int s k t) F.entry_int_rmul (F.args_int_rmul_2 _ _) (int_rmul_tuple k t l its.toArray n dd sl)
      ⟨ho, rfl, ⟨_, ho, rfl⟩, call_meets F.slot_tuple_mul ⟨_, ho, rfl⟩ F.entry_tuple_mul (F.args_tuple_mul_2 _ _) (tuple_mul1 l its.toArray n dd sl k t c0 c1) ⟨ho, ?_⟩⟩)
  exact ⟨.ref l, H, I, rfl, q⟩
end
section
variable {ι Z : Type} {m : Type → Type} [Eff m Z] {c : Ct ι Z} {g : Cg Z}
/-- a * b -/
def mulD : D → D → Res D
  | .int i, .int j => mulI i j
  | .tup xs, .int k => repT xs k
  | .lst xs, .int k => repL xs k
  | _, _ => .bad
def rMulU (K : PySem.W.Frag) : R2 := fun x y H Q => rI CMul (fun i j => .int (i * j)) x y H Q ∨ ((rRepT1 K x y H Q ∨ rRepT K x y H Q) ∨ rRep x y H Q)
theorem op_mulU {X : Cx} : OpR X (binaryOp .Mult) (rMulU X.K) := op_mul.or ((op_repT1.or op_repT).or op_rep)
theorem RepFs.nil_iff {F : Hp} {ds : List D} {vs : List V} (r : RepFs F ds vs) : ds = [] ↔ vs = [] := by
  have := r.length
  constructor
  · rintro rfl; exact List.eq_nil_of_length_eq_zero this.symm
  · rintro rfl; exact List.eq_nil_of_length_eq_zero this
theorem op2_mul {K : PySem.W.Frag} : Op2 g (rMulU K) mulD := by
  intro F H x y d e Q s hx hy
  cases d with
  | int i =>
    cases e with
    | int j =>
      refine ⟨?_, fun a ea k => ?_⟩
      · show (mulI i j).Tame; unfold mulI; exact ite_tame trivial
      · have ea : mulI i j = .ok a := ea
        unfold mulI at ea
        obtain ⟨h, ea⟩ := ite_ok ea
        cases ea
        rw [hx.int, hy.int]
        rw [Bool.or_eq_true] at h
        exact .inl ⟨i, j, rfl, rfl, h.imp small64_ok small64_ok, k _ H F (Grow.refl s) rfl⟩
    | _ => exact ⟨trivial, fun a ea => nomatch ea⟩
  | tup xs =>
    cases e with
    | int j =>
      refine ⟨?_, fun a ea k => ?_⟩
      · show (repT xs j).Tame; unfold repT; split <;> exact ite_tame trivial
      · have ea : repT xs j = .ok a := ea
        unfold repT at ea
        obtain ⟨p, vs, rfl, q, f, r⟩ := hx.tup s
        rw [hy.int]
        split at ea
        · rename_i h
          obtain ⟨hj, ea⟩ := ite_ok ea
          cases ea
          exact .inr (.inl (.inl ⟨p, j, vs, rfl, rfl, SqT.of q, h.imp r.nil_iff.mp id, hj.1, hj.2, k _ H F (Grow.refl s) ⟨p, vs, rfl, f, r⟩⟩))
        · rename_i hn
          obtain ⟨h, ea⟩ := ite_ok ea
          cases ea
          refine .inr (.inl (.inr ⟨p, j, vs, rfl, rfl, SqT.of q, fun e => hn (.inl (r.nil_iff.mpr e)), h.1, h.2.1, by rw [← r.length]; exact h.2.2, fun t ht => ?_⟩))
          have G := Grow.new (o := .tup (List.replicate j.toNat vs).flatten) s ht
          exact k _ _ _ G ⟨t, _, rfl, upd_same, (RepFs.mono G.ff _ _ r).rep _⟩
    | _ => exact ⟨trivial, fun a ea => nomatch ea⟩
  | lst xs =>
    cases e with
    | int j =>
      refine ⟨?_, fun a ea k => ?_⟩
      · show (repL xs j).Tame; unfold repL; exact ite_tame trivial
      · have ea : repL xs j = .ok a := ea
        unfold repL at ea
        obtain ⟨h, ea⟩ := ite_ok ea
        cases ea
        obtain ⟨p, vs, rfl, q, r⟩ := hx.lst s
        rw [hy.int]
        refine .inr (.inr ⟨p, j, vs, rfl, rfl, q, by omega, by omega, by rw [← r.length, ← lim_eq]; exact h.2.2, fun t ht => ?_⟩)
        have G := Grow.new (o := .lst (List.replicate j.toNat vs).flatten) s ht
        exact k _ _ _ G ⟨t, _, rfl, upd_same, (RepFs.mono G.ff _ _ r).rep _⟩
    | _ => exact ⟨trivial, fun a ea => nomatch ea⟩
  | _ => exact ⟨trivial, fun a ea => nomatch ea⟩
def modD : D → D → Res D := fI fun i j => if j ≠ 0 then .ok (.int (i.fmod j)) else .bad
theorem op2_mod : Op2 g (rI (fun _ j => j ≠ 0) fun i j => .int (i.fmod j)) modD :=
  op2_int (fun _ _ => ite_tame trivial) fun i j H Q a ea k => by
    obtain ⟨h, ea⟩ := ite_ok ea
    cases ea
    exact ⟨i, j, rfl, rfl, h, k _ fun _ => rfl⟩
def fdivD : D → D → Res D := fI fun i j => if j ≠ 0 ∧ j.natAbs < 1073741824 then .ok (.int (i.fdiv j)) else .bad
theorem op2_fdiv : Op2 g (rI CDivN fun i j => .int (i.fdiv j)) fdivD :=
  op2_int (fun _ _ => ite_tame trivial) fun i j H Q a ea k => by
    obtain ⟨h, ea⟩ := ite_ok ea
    cases ea
    exact ⟨i, j, rfl, rfl, h, k _ fun _ => rfl⟩
def powD : D → D → Res D := fI fun i j => if 0 ≤ j ∧ j ≤ 1000000 ∧ i.natAbs < 18446744073709551616 then .ok (.int (i ^ j.toNat)) else .bad
theorem op2_pow : Op2 g (rI CPow fun i j => .int (i ^ j.toNat)) powD :=
  op2_int (fun _ _ => ite_tame trivial) fun i j H Q a ea k => by
    obtain ⟨h, ea⟩ := ite_ok ea
    cases ea
    exact ⟨i, j, rfl, rfl, h, k _ fun _ => rfl⟩
def ltD : D → D → Res D := fI fun i j => .ok (.bl (decide (i < j)))
def leD : D → D → Res D := fI fun i j => .ok (.bl (decide (i ≤ j)))
def gtD : D → D → Res D := fI fun i j => .ok (.bl (decide (j < i)))
def geD : D → D → Res D := fI fun i j => .ok (.bl (decide (j ≤ i)))
theorem op2_lt : Op2 g (rI0 fun i j => .bl (decide (i < j))) ltD := op2_int (fun _ _ => trivial) fun i j H Q a ea k => by cases ea; exact ⟨i, j, rfl, rfl, k _ fun _ => rfl⟩
theorem op2_le : Op2 g (rI0 fun i j => .bl (decide (i ≤ j))) leD := op2_int (fun _ _ => trivial) fun i j H Q a ea k => by cases ea; exact ⟨i, j, rfl, rfl, k _ fun _ => rfl⟩
theorem op2_gt : Op2 g (rI0 fun i j => .bl (decide (j < i))) gtD := op2_int (fun _ _ => trivial) fun i j H Q a ea k => by cases ea; exact ⟨i, j, rfl, rfl, k _ fun _ => rfl⟩
theorem op2_ge : Op2 g (rI0 fun i j => .bl (decide (j ≤ i))) geD := op2_int (fun _ _ => trivial) fun i j H Q a ea k => by cases ea; exact ⟨i, j, rfl, rfl, k _ fun _ => rfl⟩
/-- == of data -/
def eqD (d e : D) : Res D := if d.data && e.data then .ok (.bl (PyData.eqv d.py e.py)) else .bad
def neD (d e : D) : Res D := if d.data && e.data then .ok (.bl (!PyData.eqv d.py e.py)) else .bad
theorem op2_eq {K : PySem.W.Frag} : Op2 g (rEqD K) eqD := by
  intro F H x y d e Q s hx hy
  refine ⟨by unfold eqD; exact ite_tame trivial, fun a ea k => ?_⟩
  unfold eqD at ea
  obtain ⟨h, ea⟩ := ite_ok ea
  cases ea
  rw [Bool.and_eq_true] at h
  exact ⟨d.py, e.py, RepF.dp d x (D.data_plain h.1) (hx.whole s), RepF.dp e y (D.data_plain h.2) (hy.whole s), D.shaped h.1, D.shaped h.2, k _ H F (Grow.refl s) rfl⟩
theorem op2_ne {K : PySem.W.Frag} : Op2 g (rNeD K) neD := by
  intro F H x y d e Q s hx hy
  refine ⟨by unfold neD; exact ite_tame trivial, fun a ea k => ?_⟩
  unfold neD at ea
  obtain ⟨h, ea⟩ := ite_ok ea
  cases ea
  rw [Bool.and_eq_true] at h
  exact ⟨d.py, e.py, RepF.dp d x (D.data_plain h.1) (hx.whole s), RepF.dp e y (D.data_plain h.2) (hy.whole s), D.shaped h.1, D.shaped h.2, k _ H F (Grow.refl s) rfl⟩
/-- is None, is not None (the right one is None) -/
def isN : D → Bool
  | .non => true
  | _ => false
def isD (d e : D) : Res D := match e with
  | .non => .ok (.bl (isN d))
  | _ => .bad
def isntD (d e : D) : Res D := match e with
  | .non => .ok (.bl (!isN d))
  | _ => .bad
theorem RepF.isN {F : Hp} {d : D} {v : V} (h : RepF F d v) : decide (v = .non) = isN d := by
  cases d with
  | non => have h : v = .non := h; subst h; rfl
  | bl _ => have h : v = .bl _ := h; subst h; rfl
  | int _ => have h : v = .int _ := h; subst h; rfl
  | str _ => have h : v = .str _ := h; subst h; exact decide_eq_false (fun z => nomatch z)
  | ref _ => have h : v = .ref _ := h; subst h; rfl
  | ty _ => have h : v = .ty _ := h; subst h; rfl
  | tup _ => obtain ⟨a, vs, rfl, _⟩ := h; rfl
  | lst _ => obtain ⟨a, vs, rfl, _⟩ := h; rfl
  | dk _ => obtain ⟨a, ks, rfl, _⟩ := h; rfl
  | dt _ => obtain ⟨a, ks, rfl, _⟩ := h; rfl
theorem op2_is : Op2 g (fun x y H Q => y = .non ∧ Q (.bl (decide (x = .non))) H) isD := by
  intro F H x y d e Q s hx hy
  cases e with
  | non =>
    refine ⟨trivial, fun a ea k => ?_⟩
    cases ea
    exact ⟨hy.non, by rw [(hx.whole s).isN]; exact k _ H F (Grow.refl s) rfl⟩
  | _ => exact ⟨trivial, fun a ea => nomatch ea⟩
theorem op2_isnt : Op2 g (fun x y H Q => y = .non ∧ Q (.bl (!decide (x = .non))) H) isntD := by
  intro F H x y d e Q s hx hy
  cases e with
  | non =>
    refine ⟨trivial, fun a ea k => ?_⟩
    cases ea
    exact ⟨hy.non, by rw [(hx.whole s).isN]; exact k _ H F (Grow.refl s) rfl⟩
  | _ => exact ⟨trivial, fun a ea => nomatch ea⟩
/-- x in xs: data in a list of data -/
def inL (d : D) (xs : List D) : Bool := xs.any fun z => PyData.eqv z.py d.py
theorem pys_any {d : D} : ∀ xs : List D, (D.pys xs).any (fun z => PyData.eqv z d.py) = inL d xs
  | [] => rfl
  | x :: xs => by show (PyData.eqv x.py d.py || (D.pys xs).any _) = _; rw [pys_any xs]; rfl
def inD (d e : D) : Res D := match e with
  | .lst xs => if d.data && (D.lst xs).data then .ok (.bl (inL d xs)) else .bad
  | _ => .bad
def ninD (d e : D) : Res D := match e with
  | .lst xs => if d.data && (D.lst xs).data then .ok (.bl (!inL d xs)) else .bad
  | _ => .bad
end
end Vf

namespace Vf
open PySem L2
section
open PySem.Spec PyProof.Rows PySem.W
/-! ### t[::-1] -/
theorem adj_rev (n : Nat) : Builtin.Slice.sliceAdjust none none (-1) (n : Int) = ((n : Int) - 1, -1) := by
  unfold Builtin.Slice.sliceAdjust
  simp
theorem places_rev (n : Nat) : Builtin.Slice.slicePlaces ((n : Int) - 1) (-1) (-1) = n := by
  unfold Builtin.Slice.slicePlaces
  have h1 : ¬ ((-1 : Int) > 0) := by omega
  simp only [h1, if_false, Int.neg_neg, Int.ediv_one]
  split <;> omega
theorem fm_congr {α β : Type} {f g : α → Option β} : ∀ {l : List α}, (∀ x ∈ l, f x = g x) → l.filterMap f = l.filterMap g
  | [], _ => rfl
  | x :: l, h => by
    rw [List.filterMap_cons, List.filterMap_cons, h x List.mem_cons_self, fm_congr fun y hy => h y (List.mem_cons_of_mem _ hy)]
theorem pick_rev (xs : Array Value) : ((List.range xs.size).filterMap fun (m : Nat) => xs[(((xs.size : Nat) : Int) - 1 + (m : Int) * (-1)).toNat]?).toArray = xs.toList.reverse.toArray := by
  have e : (List.range xs.size).filterMap (fun (m : Nat) => xs[(((xs.size : Nat) : Int) - 1 + (m : Int) * (-1)).toNat]?) = ((List.range xs.size).map fun k => xs.size - 1 - k).filterMap (xs[·]?) := by
    rw [List.filterMap_map]
    apply fm_congr
    intro m hm
    have := List.mem_range.mp hm
    have q : (((xs.size : Nat) : Int) - 1 + (m : Int) * (-1)).toNat = xs.size - 1 - m := by omega
    show xs[(((xs.size : Nat) : Int) - 1 + (m : Int) * (-1)).toNat]? = xs[xs.size - 1 - m]?
    rw [q]
  rw [e, krv_range, List.filterMap_reverse, krv_all]
section
variable {prog : Program} {w : World} {A : Around} {E : Value → Shared → Prop} {s : Shared}
theorem sliceApplied_rev {sl : Addr} {vl vu vs : Value} {n : Nat} {Q : Int × Int × Nat → Shared → Prop} (hs : s.heap.IsSliceOf sl vl vu vs) (pl : IsPart vl none) (pu : IsPart vu none) (ps : IsPart vs (some (-1)))
    (h : Q ((n : Int) - 1, -1, n) s) : wpAny (model prog w) A (Builtin.Slice.sliceApplied (.ref sl) (pure (n : Int))) Q E s := by
  obtain ⟨os, hos, hcs, hds⟩ := id hs
  unfold Builtin.Slice.sliceApplied Builtin.Slice.sliceFields
  refine wpAny_bind (wpAny_bind (wpAny_field hos hds (x := vl) rfl (wpAny_bind (wpAny_field hos hds (x := vu) rfl (wpAny_bind (wpAny_field hos hds (x := vs) rfl (wpAny_pure ?_)))))))
  refine wpAny_bind (HT.slicePart_ ps ?_)
  show wpAny _ _ (if ((-1 : Int) == 0) = true then _ else _) _ _ s
  rw [if_neg (by decide)]
  refine wpAny_bind (HT.slicePart_ pl (wpAny_bind (HT.slicePart_ pu (wpAny_bind (wpAny_pure ?_)))))
  show wpAny _ _ (match Builtin.Slice.sliceAdjust none none (-1) (n : Int) with | (lo, hi) => pure (lo, (-1 : Int), Builtin.Slice.slicePlaces lo hi (-1))) _ _ s
  rw [adj_rev n]
  show wpAny _ _ (pure ((n : Int) - 1, (-1 : Int), Builtin.Slice.slicePlaces ((n : Int) - 1) (-1) (-1))) _ _ s
  rw [places_rev]
  exact wpAny_pure h
theorem getItem_tuple_rev {t sl : Addr} {items : Array Value} {vl vu vs : Value} {Q : Value → Shared → Prop} (ht : IsTup s.heap t items) (hs : s.heap.IsSliceOf sl vl vu vs) (pl : IsPart vl none) (pu : IsPart vu none) (ps : IsPart vs (some (-1)))
    (h : Q (.ref s.heap.objs.size) { s with heap := s.heap.push { cls := .type "tuple", data := .seq items.toList.reverse.toArray } })
    (hsz : items.size ≤ sizeLine) : wpAny (model prog w) A (getItem (.ref t) (.ref sl)) Q E s := by
  have htake : sizeOk (.seq items.toList.reverse.toArray) := by
    show items.toList.reverse.toArray.size ≤ sizeLine
    rw [List.size_toArray, List.length_reverse, Array.length_toList]
    omega
  obtain ⟨os, hos, hcs, hds⟩ := id hs
  have hTs : s.TypeIs (.ref sl) "slice" := ⟨os, hos, hcs⟩
  unfold getItem
  try with_reducible refine wpAny_holding ?_
  first | refine wpAny_bind (wpAny_pure ?_) | skip
  refine wpAny_bind (wpAny_sequenceKey ht.typeIs (by decide) ?_)
  refine wpAny_bind (wpAny_callSpecial?_slot (name := Str.ofString "__getitem__") ht.typeIs PyProof.Rows.slot_tuple_getitem
    (wpAny_call_entry PyProof.Rows.slot_tuple_getitem ht.typeIs entry_tuple_getitem ?_ (args_tuple_getitem _ _)))
  show wpAny _ _ (Builtin.Tuple.tupleItemsOf (.ref t) >>= _) _ _ s
  refine wpAny_bind (tupleItemsOf_ ht ?_)
  refine wpAny_bind (wpAny_typeOf hTs ?_)
  rw [if_pos (by decide)]
  refine wpAny_bind (sliceApplied_rev hs pl pu ps ?_)
  have hno : ¬ (((((items.size : Nat) : Int) - 1) == 0 && (-1 : Int) == 1 && items.size == items.size) = true) := by
    intro q
    rw [Bool.and_eq_true, Bool.and_eq_true] at q
    have q1 : (-1 : Int) = 1 := eq_of_beq q.1.2
    omega
  show wpAny _ _ (if ((((items.size : Nat) : Int) - 1) == 0 && (-1 : Int) == 1 && items.size == items.size) = true then _ else _) _ _ s
  rw [if_neg hno, pick_rev]
  first
    | exact wpAny_bind (m := Builtin.Tuple.tupleExact _) (wpAny_newObj_type (wpAny_pure ⟨_, rfl, wpAny_pure h⟩) htake)
    | exact wpAny_bind (m := Builtin.Tuple.tupleExact _) (wpAny_newObj_type (wpAny_bind (wpAny_pure (wpAny_pure ⟨_, rfl, wpAny_pure h⟩))) htake)
    | exact wpAny_bind (wpAny_bind (m := Builtin.Tuple.tupleExact _) (wpAny_newObj_type (wpAny_pure (wpAny_pure ⟨_, rfl, wpAny_pure h⟩)) htake))
    | exact wpAny_bind (wpAny_bind (m := Builtin.Tuple.tupleExact _) (wpAny_newObj_type (wpAny_pure ⟨_, rfl, wpAny_pure h⟩) htake))
end
def tRevU (K : PySem.W.Frag) (te : TE) : TE := fun σ H Q => te σ H fun x H1 => (∃ a xs, x = .ref a ∧ SqL K H1 a xs ∧ ∀ p, H1 p = none → Q (.ref p) (upd H1 p (.lst xs.reverse))) ∨ ∃ a xs, x = .ref a ∧ SqT K H1 a xs ∧ ∀ p, H1 p = none → Q (.ref p) (upd H1 p (.tup xs.reverse))
theorem pe_revU {X : Cx} {e : Expr} {te : TE} {k : Nat} {p1 p2 p3 pos : Pos} (he : PE X e te) : PE X (.Subscript e (.Slice none none (some (.UnaryOp .USub (.Constant (.int 1) k p1) p2)) p3) pos) (tRevU X.K te) := by
  refine ⟨fun pins s σ H Q I h => ?_⟩
  refine Subscript_ (thn (he.run pins s σ H _ I h) fun v s1 ⟨x, H1, I1, r1, q1⟩ => ?_)
  have hst : PO X (some (.UnaryOp .USub (.Constant (.int 1) k p1) p2)) (tPart (tUn (rU fun i => .int (-i)) (tC (.int 1)))) := po_some (pe_un un_neg pe_int)
  refine wpAny_Slice (thn (po_none.run pins s1 σ H1 (fun o H2 => o = none ∧ H2 = H1) I1 ⟨rfl, rfl⟩) fun vl s2 ⟨l, H2, I2, pl, el, e2⟩ => ?_)
  subst el e2
  refine thn (po_none.run pins s2 σ H2 (fun o H3 => o = none ∧ H3 = H2) I2 ⟨rfl, rfl⟩) fun vu s3 ⟨u, H3, I3, pu, eu, e3⟩ => ?_
  subst eu e3
  refine thn (hst.run pins s3 σ H3 (fun o H4 => o = some (-1) ∧ H4 = H3) I3 ⟨1, rfl, -1, rfl, rfl, rfl⟩) fun vs s4 ⟨o, H4, I4, ps, eo, e4⟩ => ?_
  subst eo e4
  have I5 : Inv X pins σ H4 { s4 with heap := s4.heap.push { cls := .type "slice", data := .fields #[vl, vu, vs] } } := I4.kept (t' := s4.toks) fun b ob q => Heap.get?_push_of_some _ q
  rcases q1 with ⟨a, xs, ex, hx, q⟩ | ⟨a, xs, ex, hx, q⟩
  · subst ex
    cases r1
    obtain ⟨its, r, ht, hz⟩ := I5.list hx
    have hlen := r.length
    show wpAny (model X.prog X.w) X.A (subscriptTail e (.Slice none none (some (.UnaryOp .USub (.Constant (.int 1) k p1) p2)) p3) (.ref a) (.ref s4.heap.objs.size)) (EP X pins σ Q) X.xe { s4 with heap := s4.heap.push { cls := .type "slice", data := .fields #[vl, vu, vs] } }
    refine tail_any (ops := [.ref a, .ref s4.heap.objs.size]) ht.isList.typeIs (PySem.slot_list_getitem.lookup) ?_ (by with_unfolding_all rfl)
    refine wpAny_getItem_list_slice ht.isList (Heap.IsSliceOf.new _ vl vu vs) pl pu ps (by decide) ?_ (by rw [List.size_toArray]; omega)
    rw [PySem.W.krv_pick]
    refine ⟨.ref _, _, I5.laid (t' := s4.toks) (o := .lst xs.reverse) (fun b ob q => Heap.get?_push_of_some _ q) (Nat.le_refl _) ?_, rfl, q _ (I5.hok.fresh (Nat.le_refl _))⟩
    exact ⟨by rw [List.length_reverse]; exact hz, _, 0, r.reverse, Heap.get?_push_size _ rfl⟩
  · subst ex
    cases r1
    obtain ⟨its, r, ht, hz⟩ := I5.tuple hx
    have hlen := r.length
    show wpAny (model X.prog X.w) X.A (subscriptTail e (.Slice none none (some (.UnaryOp .USub (.Constant (.int 1) k p1) p2)) p3) (.ref a) (.ref s4.heap.objs.size)) (EP X pins σ Q) X.xe { s4 with heap := s4.heap.push { cls := .type "slice", data := .fields #[vl, vu, vs] } }
    refine tail_any (ops := [.ref a, .ref s4.heap.objs.size]) ht.typeIs (PyProof.Rows.slot_tuple_getitem.lookup) ?_ (by with_unfolding_all rfl)
    refine getItem_tuple_rev ht (Heap.IsSliceOf.new _ vl vu vs) pl pu ps ?_ (by rw [List.size_toArray]; omega)
    refine ⟨.ref _, _, I5.laid (t' := s4.toks) (o := .tup xs.reverse) (fun b ob q => Heap.get?_push_of_some _ q) (Nat.le_refl _) ?_, rfl, q _ (I5.hok.fresh (Nat.le_refl _))⟩
    exact ⟨by rw [List.length_reverse]; exact hz, _, r.reverse, IsTup.new _ _⟩
/-! ### d[k] of a dict as a plain subscript -/
def rIxDG : R2 := fun x y H Q => ∃ a v, x = .ref a ∧ DGet H a y (some v) ∧ Q v H
theorem ix_dict {X : Cx} (hu : X.A.units + 1 < cLine) : IxR X rIxDG := by
  intro value slice pins s σ H x y v u Q I rx ry h hs
  obtain ⟨a, z, ex, g, q⟩ := h
  subst ex
  cases rx
  exact tail_any (ops := [.ref a, u]) (dict_typeIs I g) PySem.F.slot_dict_getitem.lookup (d_getItem hu I g ry fun w' s' I' rw' => ⟨z, H, I', rw', q⟩) hs
end

/-! ### dicts of data -/
section
variable {κ : Type} [DecidableEq κ]
def getK {α : Type} (kvs : List (κ × α)) (k : κ) : Option α := (kvs.find? fun kv => decide (kv.1 = k)).map (·.2)
def setK {α : Type} (kvs : List (κ × α)) (k : κ) (v : α) : List (κ × α) :=
  if (kvs.any fun kv => decide (kv.1 = k)) = true then kvs.map (fun kv => if kv.1 = k then (kv.1, v) else kv) else kvs ++ [(k, v)]
/-- pairs that go together -/
def RepP (F : Hp) (ds : List (κ × D)) (vs : List (κ × V)) : Prop := ds.map (·.1) = vs.map (·.1) ∧ RepFs F (ds.map (·.2)) (vs.map (·.2))
theorem RepP.nil {F : Hp} : RepP F ([] : List (κ × D)) [] := ⟨rfl, rfl⟩
theorem RepP.cons {F : Hp} {k : κ} {d : D} {v : V} {ds : List (κ × D)} {vs : List (κ × V)} (h : RepF F d v) (t : RepP F ds vs) : RepP F ((k, d) :: ds) ((k, v) :: vs) := by
  refine ⟨?_, ?_⟩
  · show k :: ds.map (·.1) = k :: vs.map (·.1); rw [t.1]
  · exact ⟨v, _, rfl, h, t.2⟩
theorem RepP.inv {F : Hp} {k : κ} {d : D} {ds : List (κ × D)} {vs : List (κ × V)} (h : RepP F ((k, d) :: ds) vs) : ∃ v r, vs = (k, v) :: r ∧ RepF F d v ∧ RepP F ds r := by
  cases vs with
  | nil => exact nomatch h.1
  | cons p r =>
    obtain ⟨h1, h2⟩ := h
    obtain ⟨pk, pv⟩ := p
    have e1 : k = pk ∧ ds.map (·.1) = r.map (·.1) := by simpa using h1
    obtain ⟨v, r', e, hd, t⟩ := h2
    have e2 : pv = v ∧ r.map (·.2) = r' := by simpa using e
    obtain ⟨rfl, e1⟩ := e1
    obtain ⟨rfl, rfl⟩ := e2
    exact ⟨pv, r, rfl, hd, e1, t⟩
theorem RepP.nil_inv {F : Hp} {vs : List (κ × V)} (h : RepP F [] vs) : vs = [] := by
  have := h.1
  cases vs with
  | nil => rfl
  | cons _ _ => exact nomatch this
theorem RepP.length {F : Hp} {ds : List (κ × D)} {vs : List (κ × V)} (h : RepP F ds vs) : ds.length = vs.length := by
  have := congrArg List.length h.1
  simpa using this
def RepOpt (F : Hp) : Option D → Option V → Prop
  | some d, o => ∃ v, o = some v ∧ RepF F d v
  | none, o => o = none
theorem RepP.get {F : Hp} (k : κ) : ∀ {ds : List (κ × D)} {vs : List (κ × V)}, RepP F ds vs → RepOpt F (getK ds k) (valV vs k)
  | [], vs, h => by rw [h.nil_inv]; exact rfl
  | (k', d) :: ds, vs, h => by
    obtain ⟨v, r, rfl, hd, t⟩ := h.inv
    by_cases e : k' = k
    · have e1 : getK ((k', d) :: ds) k = some d := by simp [getK, e]
      rw [e1]
      exact ⟨v, valV_pos e, hd⟩
    · have e1 : getK ((k', d) :: ds) k = getK ds k := by simp [getK, e]
      rw [e1]
      have e2 : valV ((k', v) :: r) k = valV r k := valV_neg e
      rw [e2]
      exact RepP.get k t
theorem RepP.any {F : Hp} (k : κ) {ds : List (κ × D)} {vs : List (κ × V)} (h : RepP F ds vs) : (ds.any fun kv => decide (kv.1 = k)) = (vs.any fun kv => decide (kv.1 = k)) := by
  have e1 : (ds.any fun kv => decide (kv.1 = k)) = (ds.map (·.1)).any fun x => decide (x = k) := by rw [List.any_map]; rfl
  have e2 : (vs.any fun kv => decide (kv.1 = k)) = (vs.map (·.1)).any fun x => decide (x = k) := by rw [List.any_map]; rfl
  rw [e1, e2, h.1]
theorem RepP.append {F : Hp} : ∀ {ds es : List (κ × D)} {vs ws : List (κ × V)}, RepP F ds vs → RepP F es ws → RepP F (ds ++ es) (vs ++ ws) := fun {ds es vs ws} h g => by
  refine ⟨?_, ?_⟩
  · rw [List.map_append, List.map_append, h.1, g.1]
  · rw [List.map_append, List.map_append]; exact h.2.append g.2
theorem RepP.put {F : Hp} (k : κ) {d : D} {v : V} (hd : RepF F d v) {ds : List (κ × D)} {vs : List (κ × V)} (h : RepP F ds vs) : RepP F (setK ds k d) (putK vs k v) := by
  unfold setK putK
  rw [h.any k]
  split
  · have go : ∀ (ds : List (κ × D)) (vs : List (κ × V)), RepP F ds vs → RepP F (ds.map fun kv => if kv.1 = k then (kv.1, d) else kv) (vs.map fun kv => if kv.1 = k then (kv.1, v) else kv) := by
      intro ds
      induction ds with
      | nil => intro vs h; rw [h.nil_inv]; exact RepP.nil
      | cons p ds ih =>
        intro vs h
        obtain ⟨k', d'⟩ := p
        obtain ⟨v', r, rfl, hd', t⟩ := h.inv
        rw [List.map_cons, List.map_cons]
        by_cases e : k' = k
        · subst e
          simp only [if_pos]
          exact RepP.cons hd (ih _ t)
        · simp only [if_neg e]
          exact RepP.cons hd' (ih _ t)
    exact go ds vs h
  · exact h.append (RepP.cons hd RepP.nil)
end
theorem repK_iff {F : Hp} : ∀ {ds : List (Key × D)} {vs : List (Key × V)}, RepK F ds vs ↔ RepP F ds vs
  | [], vs => ⟨fun h => by have h : vs = [] := h; subst h; exact RepP.nil, fun h => h.nil_inv⟩
  | (k, d) :: ds, vs => ⟨fun ⟨v, r, e, h, t⟩ => by subst e; exact RepP.cons h (repK_iff.mp t), fun h => by
      obtain ⟨v, r, rfl, hd, t⟩ := h.inv
      exact ⟨v, r, rfl, hd, repK_iff.mpr t⟩⟩
theorem repT_iff {F : Hp} : ∀ {ds : List (List Key × D)} {vs : List (List Key × V)}, RepT F ds vs ↔ RepP F ds vs
  | [], vs => ⟨fun h => by have h : vs = [] := h; subst h; exact RepP.nil, fun h => h.nil_inv⟩
  | (k, d) :: ds, vs => ⟨fun ⟨v, r, e, h, t⟩ => by subst e; exact RepP.cons h (repT_iff.mp t), fun h => by
      obtain ⟨v, r, rfl, hd, t⟩ := h.inv
      exact ⟨v, r, rfl, hd, repT_iff.mpr t⟩⟩
def keyD : D → Option Key
  | .int i => some (.inl i)
  | .str s => some (.inr s)
  | _ => none
def keysD : List D → Option (List Key)
  | [] => some []
  | d :: ds => match keyD d, keysD ds with
    | some k, some ks => some (k :: ks)
    | _, _ => none
theorem keyD_rep {F : Hp} {d : D} {k : Key} {v : V} (e : keyD d = some k) (h : RepF F d v) : v = kV k := by
  cases d with
  | int i => cases e; exact h
  | str s => cases e; exact h
  | _ => cases e
theorem keysD_rep {F : Hp} : ∀ {ds : List D} {ks : List Key} {vs : List V}, keysD ds = some ks → RepFs F ds vs → vs = ks.map kV
  | [], ks, vs, e, h => by cases e; exact h
  | d :: ds, ks, vs, e, ⟨v, r, ev, h, t⟩ => by
    subst ev
    unfold keysD at e
    cases q : keyD d with
    | none => rw [q] at e; cases e
    | some k =>
      cases q2 : keysD ds with
      | none => rw [q, q2] at e; cases e
      | some ks' =>
        rw [q, q2] at e
        cases e
        rw [keyD_rep q h, keysD_rep q2 t]
        rfl
/-- what a dict holds at a key -/
def lookD (d k : D) : Option (Option D) := match d with
  | .dk kvs => (keyD k).map fun x => getK kvs x
  | .dt kvs => match k with
    | .tup ks => (keysD ks).map fun x => getK kvs x
    | _ => none
  | _ => none
section
variable {Z : Type} {g : Cg Z}
theorem BRep.dk {F H : Hp} {v : V} {kvs : List (Key × D)} (h : BRep g F H (.dk kvs) v) (s : Sub F H) : ∃ a ks, v = .ref a ∧ H a = some (.dK ks) ∧ RepP F kvs ks := by
  rcases h with ⟨a, vs, e, q, r⟩ | ⟨a, e, n, vs, q, r⟩
  · exact ⟨a, vs, e, s _ _ q, repK_iff.mp r⟩
  · exact ⟨a, vs, e, q, repK_iff.mp r⟩
theorem BRep.dt {F H : Hp} {v : V} {kvs : List (List Key × D)} (h : BRep g F H (.dt kvs) v) (s : Sub F H) : ∃ a ks, v = .ref a ∧ H a = some (.dT ks) ∧ RepP F kvs ks := by
  rcases h with ⟨a, vs, e, q, r⟩ | ⟨a, e, n, vs, q, r⟩
  · exact ⟨a, vs, e, s _ _ q, repT_iff.mp r⟩
  · exact ⟨a, vs, e, q, repT_iff.mp r⟩
theorem lookD_get {F H : Hp} {d k : D} {x y : V} {r : Option D} (s : Sub F H) (hx : BRep g F H d x) (hy : BRep g F H k y) (e : lookD d k = some r) : ∃ a o, x = .ref a ∧ DGet H a y o ∧ RepOpt F r o := by
  cases d with
  | dk kvs =>
    obtain ⟨a, ks, rfl, q, rp⟩ := hx.dk s
    cases ek : keyD k with
    | none => unfold lookD at e; rw [ek] at e; cases e
    | some kk =>
      unfold lookD at e
      rw [ek] at e
      cases e
      have ey : y = kV kk := keyD_rep ek (hy.whole s)
      subst ey
      exact ⟨a, _, rfl, DGet.k q, rp.get kk⟩
  | dt kvs =>
    obtain ⟨a, ks, rfl, q, rp⟩ := hx.dt s
    cases k with
    | tup kd =>
      cases ek : keysD kd with
      | none => unfold lookD at e; simp only [ek] at e; cases e
      | some kk =>
        unfold lookD at e
        simp only [ek] at e
        cases e
        obtain ⟨b, vs, rfl, qb, _, rb⟩ := hy.tup s
        have ev := keysD_rep ek rb
        subst ev
        exact ⟨a, _, rfl, DGet.t q qb, rp.get kk⟩
    | _ => cases e
  | _ => cases e
end

section
variable {ι Z : Type} {m : Type → Type} [Eff m Z] {c : Ct ι Z} {g : Cg Z}
theorem RepFs.atI {F : Hp} {ds : List D} {vs : List V} {i : Int} {d : D} (r : RepFs F ds vs) (e : L2.atI ds i = some d) : ∃ v, L2.atI vs i = some v ∧ RepF F d v := by
  unfold L2.atI at e ⊢
  rw [← r.length]
  cases q : ixN ds.length i with
  | none => rw [q] at e; cases e
  | some j => rw [q] at e; exact r.get' e
/-- a[i] -/
def ixD (d i : D) : Res D := match d, i with
  | .lst xs, .int i => match L2.atI xs i with
    | some x => .ok x
    | none => .bad
  | .tup xs, .int i => match L2.atI xs i with
    | some x => .ok x
    | none => .bad
  | d, i => match lookD d i with
    | some (some x) => .ok x
    | _ => .bad
def rIxU (K : PySem.W.Frag) : R2 := fun x y H Q => rIx K x y H Q ∨ rIxDG x y H Q
theorem ix_U {X : Cx} (hu : X.A.units + 1 < cLine) : IxR X (rIxU X.K) := ix_seq.or (ix_dict hu)
theorem op2_ix {K : PySem.W.Frag} : Op2 g (rIxU K) ixD := by
  intro F H x y d e Q s hx hy
  have dict : (ixD d e = (match lookD d e with | some (some x) => .ok x | _ => .bad)) → ((ixD d e).Tame ∧ ∀ a, ixD d e = .ok a → (∀ v H' F', Grow g0 H F H' F' → RepF F' a v → Q v H') → rIxU K x y H Q) := fun q => by
    rw [q]
    cases el : lookD d e with
    | none => exact ⟨trivial, fun a ea => nomatch ea⟩
    | some r =>
      cases r with
      | none => exact ⟨trivial, fun a ea => nomatch ea⟩
      | some u =>
        refine ⟨trivial, fun a ea k => ?_⟩
        cases ea
        obtain ⟨p, o, ex, gd, v, eo, rv⟩ := lookD_get s hx hy el
        subst eo
        exact .inr ⟨p, v, ex, gd, k v H F (Grow.refl s) rv⟩
  cases d with
  | lst xs =>
    cases e with
    | int i =>
      cases q : L2.atI xs i with
      | none => exact ⟨by simp [ixD, q, Res.Tame], fun a ea => by simp [ixD, q] at ea⟩
      | some u =>
        refine ⟨by simp [ixD, q, Res.Tame], fun a ea k => ?_⟩
        have : u = a := by simpa [ixD, q] using ea
        subst this
        obtain ⟨p, vs, rfl, qp, r⟩ := hx.lst s
        obtain ⟨v, ev, rv⟩ := r.atI q
        exact .inl (.inl ⟨p, vs, i, v, rfl, hy.int, SqL.of qp, ev, k v H F (Grow.refl s) rv⟩)
    | _ => exact dict rfl
  | tup xs =>
    cases e with
    | int i =>
      cases q : L2.atI xs i with
      | none => exact ⟨by simp [ixD, q, Res.Tame], fun a ea => by simp [ixD, q] at ea⟩
      | some u =>
        refine ⟨by simp [ixD, q, Res.Tame], fun a ea k => ?_⟩
        have : u = a := by simpa [ixD, q] using ea
        subst this
        obtain ⟨p, vs, rfl, qp, _, r⟩ := hx.tup s
        obtain ⟨v, ev, rv⟩ := r.atI q
        exact .inl (.inr (.inl ⟨p, vs, i, v, rfl, hy.int, SqT.of qp, ev, k v H F (Grow.refl s) rv⟩))
    | _ => exact dict rfl
  | _ => exact dict rfl

/-! ### slices -/
def cutD (xs : List D) (lo hi : Option Int) : List D := (xs.drop (HT.sIx xs.length 0 lo)).take (HT.sIx xs.length xs.length hi - HT.sIx xs.length 0 lo)
def slD (d : D) (lo hi : Option Int) : Res D := match d with
  | .tup xs => .ok (.tup (cutD xs lo hi))
  | .lst xs => .ok (.lst (cutD xs lo hi))
  | _ => .bad
def EvP (c : Ct ι Z) (e : Option Expr) (f : Sto → m (Option Int)) : Prop := ∃ t : TO, (∀ i, PO (c.X i) e t) ∧ ∀ (H0 F0 : Hp) (ρ : Sto) (F : Hp) (σ : L2.St) (H : Hp) (z : Z) (Q : Option Int → Hp → Prop), Sta c.g H0 F0 ρ F σ H → c.g.rep z H →
  OkP c H0 F0 (Eff.run (f ρ) z) (fun o z' => ∀ H' F', Grow c.g H F H' F' → c.g.rep z' H' → Q o H') → t σ H Q
def pNo : Sto → m (Option Int) := fun _ => pure none
def asI (d : D) : Res Int := match d with
  | .int i => .ok i
  | _ => .bad
def pSome (f : Sto → m D) : Sto → m (Option Int) := fun ρ => do
  let d ← f ρ
  let i ← Eff.lift (asI d)
  pure (some i)
theorem evp_none : EvP (m := m) c none pNo := ⟨_, fun _ => po_none, fun H0 F0 ρ F σ H z Q S rz h => (OkP.pure (c := c) h) H F (Grow.refl S.fh) rz⟩
theorem evp_some {e : Expr} {f : Sto → m D} (h : EvE c e f) : EvP c (some e) (pSome f) := by
  obtain ⟨t, p, k⟩ := h
  refine ⟨_, fun i => po_some (p i), fun H0 F0 ρ F σ H z Q S rz h => ?_⟩
  refine k _ _ _ _ _ _ _ _ S rz (h.bind.imp fun d z1 h v H1 F1 G1 rz1 r => ?_)
  cases d with
  | int i =>
    have h := h.bind.lift
    exact ⟨i, r, (OkP.pure (c := c) h) H1 F1 G1 rz1⟩
  | _ => exact h.bind.lift.elim
def rSlU (K : PySem.W.Frag) : V → Option Int → Option Int → Hp → VK → Prop := fun x lo hi H Q => rSlA K x lo hi H Q ∨ rSlL K x lo hi H Q
theorem sl_U {X : Cx} : SlR X (rSlU X.K) := sl_tupA.or sl_list
def eSl (a : Sto → m D) (lo hi : Sto → m (Option Int)) : Sto → m D := fun ρ => do
  let d ← a ρ
  let l ← lo ρ
  let h ← hi ρ
  Eff.lift (slD d l h)
theorem cutD_all {xs : List D} {lo hi : Option Int} (h : HT.sIx xs.length 0 lo = 0 ∧ HT.sIx xs.length xs.length hi = xs.length) : cutD xs lo hi = xs := by
  unfold cutD
  rw [h.1, h.2, List.drop_zero, Nat.sub_zero, List.take_length]
theorem RepFs.cut {F : Hp} {ds : List D} {vs : List V} (r : RepFs F ds vs) (lo hi : Option Int) : RepFs F (cutD ds lo hi) (cutV vs lo hi) := by
  unfold cutD cutV
  rw [← r.length]
  exact (r.drop _).take _
theorem ev_slice {a : Expr} {lo hi : Option Expr} {fa : Sto → m D} {fl fh : Sto → m (Option Int)} {p2 pos : Pos} (ha : EvB c a fa) (hl : EvP c lo fl) (hh : EvP c hi fh) : EvE c (.Subscript a (.Slice lo hi none p2) pos) (eSl fa fl fh) := by
  obtain ⟨ta, pa, ka⟩ := ha
  obtain ⟨tl, pl, kl⟩ := hl
  obtain ⟨th, ph, kh⟩ := hh
  refine ⟨tSl (rSlU c.K) ta tl th, fun i => pe_slice (by have := sl_U (X := c.X i); rwa [c.hK i] at this) (pa i) (pl i) (ph i), fun H0 F0 ρ F σ H z Q S rz h => ?_⟩
  refine ka _ _ _ _ _ _ _ _ S rz (h.bind.imp fun d z1 h v H1 F1 G1 rz1 r1 => ?_)
  have S1 := S.grow G1
  refine kl _ _ _ _ _ _ _ _ S1 rz1 (h.bind.imp fun l z2 h H2 F2 G2 rz2 => ?_)
  have S2 := S1.grow G2
  refine kh _ _ _ _ _ _ _ _ S2 rz2 (h.bind.imp fun u z3 h H3 F3 G3 rz3 => ?_)
  have S3 := S2.grow G3
  have r3 := (r1.grow G2).grow G3
  have G := G1.trans (G2.trans G3)
  cases d with
  | tup xs =>
    have h := h.lift
    obtain ⟨p, vs, rfl, q, f, r⟩ := r3.tup S3.fh
    refine .inl ⟨p, vs, rfl, SqT.of q, fun w => ?_, fun w t ht => ?_⟩
    · have w' : HT.sIx xs.length 0 l = 0 ∧ HT.sIx xs.length xs.length u = xs.length := by rw [r.length]; exact w
      have h : ∀ v H' F', Grow c.g H F H' F' → c.g.rep z3 H' → RepF F' (.tup (cutD xs l u)) v → Q v H' := h
      rw [cutD_all w'] at h
      exact h _ H3 F3 G rz3 ⟨p, vs, rfl, f, r⟩
    · have G' := Grow.new (o := .tup (cutV vs l u)) S3.fh ht
      exact h _ _ _ (G.trans G'.of0) (G'.rep0 S3.go rz3) ⟨t, _, rfl, upd_same, (RepFs.mono G'.ff _ _ r).cut l u⟩
  | lst xs =>
    have h := h.lift
    obtain ⟨p, vs, rfl, q, r⟩ := r3.lst S3.fh
    refine .inr ⟨p, vs, rfl, SqL.of q, fun t ht => ?_⟩
    have G' := Grow.new (o := .lst (cutV vs l u)) S3.fh ht
    exact h _ _ _ (G.trans G'.of0) (G'.rep0 S3.go rz3) ⟨t, _, rfl, upd_same, (RepFs.mono G'.ff _ _ r).cut l u⟩
  | _ => exact h.lift.elim
def revD (d : D) : Res D := match d with
  | .tup xs => .ok (.tup xs.reverse)
  | .lst xs => .ok (.lst xs.reverse)
  | _ => .bad
def e1 (f : D → Res D) (a : Sto → m D) : Sto → m D := fun ρ => do
  let d ← a ρ
  Eff.lift (f d)
theorem ev_rev {a : Expr} {fa : Sto → m D} {k : Nat} {p1 p2 p3 pos : Pos} (ha : EvB c a fa) : EvE c (.Subscript a (.Slice none none (some (.UnaryOp .USub (.Constant (.int 1) k p1) p2)) p3) pos) (e1 revD fa) := by
  obtain ⟨ta, pa, ka⟩ := ha
  refine ⟨tRevU c.K ta, fun i => by have := pe_revU (k := k) (p1 := p1) (p2 := p2) (p3 := p3) (pos := pos) (pa i); rwa [c.hK i] at this, fun H0 F0 ρ F σ H z Q S rz h => ?_⟩
  refine ka _ _ _ _ _ _ _ _ S rz (h.bind.imp fun d z1 h v H1 F1 G1 rz1 r1 => ?_)
  have S1 := S.grow G1
  cases d with
  | tup xs =>
    have h := h.lift
    obtain ⟨p, vs, rfl, q, f, r⟩ := r1.tup S1.fh
    refine .inr ⟨p, vs, rfl, SqT.of q, fun t ht => ?_⟩
    have G' := Grow.new (o := .tup vs.reverse) S1.fh ht
    exact h _ _ _ (G1.trans G'.of0) (G'.rep0 S1.go rz1) ⟨t, _, rfl, upd_same, (RepFs.mono G'.ff _ _ r).reverse⟩
  | lst xs =>
    have h := h.lift
    obtain ⟨p, vs, rfl, q, r⟩ := r1.lst S1.fh
    refine .inl ⟨p, vs, rfl, SqL.of q, fun t ht => ?_⟩
    have G' := Grow.new (o := .lst vs.reverse) S1.fh ht
    exact h _ _ _ (G1.trans G'.of0) (G'.rep0 S1.go rz1) ⟨t, _, rfl, upd_same, (RepFs.mono G'.ff _ _ r).reverse⟩
  | _ => exact h.lift.elim
end
end Vf

namespace Vf
open PySem L2
section
variable {ι Z : Type} {m : Type → Type} [Eff m Z] {c : Ct ι Z} {g : Cg Z}
/-! ### arguments, displays -/
theorem BReps.grow {F H F' H' : Hp} (G : Grow g H F H' F') : ∀ {ds : List D} {vs : List V}, BReps g F H ds vs → BReps g F' H' ds vs
  | [], _, h => h
  | _ :: _, _, ⟨v, r, e, h, t⟩ => ⟨v, r, e, h.grow G, t.grow G⟩
def aNil : Sto → m (List D) := fun _ => pure []
def aCons (a : Sto → m D) (r : Sto → m (List D)) : Sto → m (List D) := fun ρ => do
  let d ← a ρ
  let ds ← r ρ
  pure (d :: ds)
theorem eva_nil : EvA (m := m) c [] aNil := ⟨_, fun _ => pa_nil, fun H0 F0 ρ F σ H z Q S rz h => (OkP.pure (c := c) h) [] H F (Grow.refl S.fh) rz rfl⟩
theorem evaf_nil : EvAF (m := m) c [] aNil := ⟨_, fun _ => pa_nil, fun H0 F0 ρ F σ H z Q S rz h => (OkP.pure (c := c) h) [] H F (Grow.refl S.fh) rz rfl⟩
theorem eva_cons {e : Expr} {es : List Expr} {f : Sto → m D} {fs : Sto → m (List D)} (ha : EvB c e f) (hr : EvA c es fs) (hs : ∀ i, starEach (e :: es) (c.X i).env = (false, eval e (c.X i).env) :: starEach es (c.X i).env) : EvA c (e :: es) (aCons f fs) := by
  obtain ⟨ta, pa, ka⟩ := ha
  obtain ⟨tb, pb, kb⟩ := hr
  refine ⟨_, fun i => pa_cons (pa i) (pb i) (hs i), fun H0 F0 ρ F σ H z Q S rz h => ?_⟩
  refine ka _ _ _ _ _ _ _ _ S rz (h.bind.imp fun d z1 h v H1 F1 G1 rz1 r1 => ?_)
  refine kb _ _ _ _ _ _ _ _ (S.grow G1) rz1 (h.bind.imp fun ds z2 h vs H2 F2 G2 rz2 r2 => ?_)
  exact (OkP.pure (c := c) h) _ H2 F2 (G1.trans G2) rz2 ⟨v, vs, rfl, r1.grow G2, r2⟩
theorem evaf_cons {e : Expr} {es : List Expr} {f : Sto → m D} {fs : Sto → m (List D)} (ha : EvE c e f) (hr : EvAF c es fs) (hs : ∀ i, starEach (e :: es) (c.X i).env = (false, eval e (c.X i).env) :: starEach es (c.X i).env) : EvAF c (e :: es) (aCons f fs) := by
  obtain ⟨ta, pa, ka⟩ := ha
  obtain ⟨tb, pb, kb⟩ := hr
  refine ⟨_, fun i => pa_cons (pa i) (pb i) (hs i), fun H0 F0 ρ F σ H z Q S rz h => ?_⟩
  refine ka _ _ _ _ _ _ _ _ S rz (h.bind.imp fun d z1 h v H1 F1 G1 rz1 r1 => ?_)
  refine kb _ _ _ _ _ _ _ _ (S.grow G1) rz1 (h.bind.imp fun ds z2 h vs H2 F2 G2 rz2 r2 => ?_)
  exact (OkP.pure (c := c) h) _ H2 F2 (G1.trans G2) rz2 ⟨v, vs, rfl, RepF.mono G2.ff _ _ r1, r2⟩
theorem RepFs.toB {F H : Hp} : ∀ {ds : List D} {vs : List V}, RepFs F ds vs → BReps g F H ds vs
  | [], _, h => h
  | _ :: _, _, ⟨v, r, e, h, t⟩ => ⟨v, r, e, .inl h, RepFs.toB t⟩
theorem EvAF.toB {es : List Expr} {f : Sto → m (List D)} (h : EvAF c es f) : EvA c es f := by
  obtain ⟨t, p, k⟩ := h
  exact ⟨t, p, fun H0 F0 ρ F σ H z Q S rz h => k H0 F0 ρ F σ H z Q S rz (h.imp fun d z' h v H' F' G rz' r => h v H' F' G rz' (RepFs.toB r))⟩
def tupD (ds : List D) : Res D := if ds.length ≤ lim then .ok (.tup ds) else .bad
def lstD (ds : List D) : Res D := if ds.length ≤ lim then .ok (.lst ds) else .bad
def eN (f : List D → Res D) (a : Sto → m (List D)) : Sto → m D := fun ρ => do
  let ds ← a ρ
  Eff.lift (f ds)
theorem ev_tup {es : List Expr} {f : Sto → m (List D)} {x1 pos} (ha : EvAF c es f) : EvE c (.Tuple es x1 pos) (eN tupD f) := by
  obtain ⟨ta, pa, ka⟩ := ha
  refine ⟨_, fun i => pe_tup (pa i), fun H0 F0 ρ F σ H z Q S rz h => ?_⟩
  refine ka _ _ _ _ _ _ _ _ S rz (h.bind.imp fun ds z1 h vs H1 F1 G1 rz1 r1 => ?_)
  have S1 := S.grow G1
  obtain ⟨a, ea, h⟩ := h.is (ite_tame trivial)
  obtain ⟨hl, ea⟩ := ite_ok ea
  cases ea
  refine ⟨by rw [← r1.length, ← lim_eq]; exact hl, fun p hp => ?_⟩
  have G := Grow.new (o := .tup vs) S1.fh hp
  exact h _ _ _ (G1.trans G.of0) (G.rep0 S1.go rz1) ⟨p, vs, rfl, upd_same, RepFs.mono G.ff _ _ r1⟩
theorem eo_lst {es : List Expr} {f : Sto → m (List D)} {pos} (ha : EvAF c es f) : EvO c (.List es pos) (eN lstD f) := by
  obtain ⟨ta, pa, ka⟩ := ha
  refine ⟨_, fun i => pe_lst (pa i), fun H0 F0 ρ F σ H z Q S rz h => ?_⟩
  refine ka _ _ _ _ _ _ _ _ S rz (h.bind.imp fun ds z1 h vs H1 F1 G1 rz1 r1 => ?_)
  have S1 := S.grow G1
  obtain ⟨a, ea, h⟩ := h.is (ite_tame trivial)
  obtain ⟨hl, ea⟩ := ite_ok ea
  cases ea
  refine ⟨by rw [← r1.length, ← lim_eq]; exact hl, fun p hp => ?_⟩
  have G := Grow.newO (o := .lst vs) S1.fh hp
  have hp0 : H p = none := by
    cases q : H p with
    | none => rfl
    | some o => exact absurd hp (G1.os p (some_ne q))
  have hf : F1 p = none := by
    cases q : F1 p with
    | none => rfl
    | some o => rw [S1.fh _ _ q] at hp; cases hp
  exact h p _ F1 (G1.trans G.of0) (G.rep0 S1.go rz1) hp0 hf ⟨vs, upd_same, r1⟩
def dkD : Sto → m D := fun _ => pure (.dk [])
def dtD : Sto → m D := fun _ => pure (.dt [])
theorem Sta.freeF {H0 F0 : Hp} {ρ : Sto} {F : Hp} {σ : L2.St} {H : Hp} (S : Sta g H0 F0 ρ F σ H) {p : Addr} (hp : H p = none) : F p = none := by
  cases q : F p with
  | none => rfl
  | some o => rw [S.fh _ _ q] at hp; cases hp
theorem eo_dk {pos} : EvO (m := m) c (.Dict [] [] pos) dkD := by
  refine ⟨_, fun i => pe_dnewK, fun H0 F0 ρ F σ H z Q S rz h => ?_⟩
  intro p hp
  have G := Grow.newO (o := .dK []) S.fh hp
  exact (OkP.pure (c := c) h) p _ F G.of0 (G.rep0 S.go rz) hp (S.freeF hp) ⟨[], upd_same, rfl⟩
theorem eo_dt {pos} : EvO (m := m) c (.Dict [] [] pos) dtD := by
  refine ⟨_, fun i => pe_dnewT, fun H0 F0 ρ F σ H z Q S rz h => ?_⟩
  intro p hp
  have G := Grow.newO (o := .dT []) S.fh hp
  exact (OkP.pure (c := c) h) p _ F G.of0 (G.rep0 S.go rz) hp (S.freeF hp) ⟨[], upd_same, rfl⟩

/-! ### calls of built-ins -/
def OpN (g : Cg Z) (r : List V → Hp → VK → Prop) (f : List D → Res D) : Prop := ∀ (F H : Hp) (vs : List V) (ds : List D) (Q : VK), Sub F H → BReps g F H ds vs →
  ((f ds).Tame ∧ ∀ a, f ds = .ok a → (∀ v H' F', Grow g0 H F H' F' → RepF F' a v → Q v H') → r vs H Q)
def OpNO (g : Cg Z) (r : List V → Hp → VK → Prop) (f : List D → Res D) : Prop := ∀ (F H : Hp) (vs : List V) (ds : List D) (Q : VK), Sub F H → BReps g F H ds vs →
  ((f ds).Tame ∧ ∀ a, f ds = .ok a → (∀ p H' F', Grow g0 H F H' F' → H p = none → F' p = none → OwnAt F' H' a p → Q (.ref p) H') → r vs H Q)
theorem ev_callB {id : String} {r : List V → Hp → VK → Prop} {f : List D → Res D} {x : Str} {e : Expr} {es : List Expr} {fa : Sto → m (List D)} {p pos : Pos} (hc : ∀ i, CallR (c.X i) (.builtin id) r) (hf : OpN c.g r f)
    (hg : ∀ i, Gl (c.X i) x) (hm : c.mg x = none) (hv : bootBuiltins x = some (.builtin id)) (hn : x ≠ "__name__") (hdb : (x == ("__debug__" : Str)) = false)
    (hs : ∀ i, starEach (e :: es) (c.X i).env = (false, eval e (c.X i).env) :: starEach es (c.X i).env) (hp : ∀ i, (backTo pos (starEach es (c.X i).env)).any (·.1) = false)
    (hcall : ∀ i t, PA (c.X i) (e :: es) t → PE (c.X i) (.Call (.Name x p) (e :: es) [] pos) (tCB r t)) (ha : EvA c (e :: es) fa) : EvE c (.Call (.Name x p) (e :: es) [] pos) (eN f fa) := by
  obtain ⟨ta, pa, ka⟩ := ha
  refine ⟨_, fun i => hcall i ta (pa i), fun H0 F0 ρ F σ H z Q S rz h => ?_⟩
  refine ka _ _ _ _ _ _ _ _ S rz (h.bind.imp fun ds z1 h vs H1 F1 G1 rz1 r1 => ?_)
  have S1 := S.grow G1
  obtain ⟨tm, k⟩ := hf F1 H1 vs ds Q S1.fh r1
  obtain ⟨a, ea, h⟩ := h.is tm
  exact k a ea fun v H' F' G rv => h v H' F' (G1.trans G.of0) (G.rep0 S1.go rz1) rv
/-- any call whose reading is by values -/
theorem ev_callV {r : List V → Hp → VK → Prop} {f : List D → Res D} {e : Expr} {es : List Expr} {fa : Sto → m (List D)} (hf : OpN c.g r f)
    (hcall : ∀ i t, PA (c.X i) es t → PE (c.X i) e (tCB r t)) (ha : EvA c es fa) : EvE c e (eN f fa) := by
  obtain ⟨ta, pa, ka⟩ := ha
  refine ⟨_, fun i => hcall i ta (pa i), fun H0 F0 ρ F σ H z Q S rz h => ?_⟩
  refine ka _ _ _ _ _ _ _ _ S rz (h.bind.imp fun ds z1 h vs H1 F1 G1 rz1 r1 => ?_)
  have S1 := S.grow G1
  obtain ⟨tm, k⟩ := hf F1 H1 vs ds Q S1.fh r1
  obtain ⟨a, ea, h⟩ := h.is tm
  exact k a ea fun v H' F' G rv => h v H' F' (G1.trans G.of0) (G.rep0 S1.go rz1) rv
theorem eo_callV {r : List V → Hp → VK → Prop} {f : List D → Res D} {e : Expr} {es : List Expr} {fa : Sto → m (List D)} (hf : OpNO c.g r f)
    (hcall : ∀ i t, PA (c.X i) es t → PE (c.X i) e (tCB r t)) (ha : EvA c es fa) : EvO c e (eN f fa) := by
  obtain ⟨ta, pa, ka⟩ := ha
  refine ⟨_, fun i => hcall i ta (pa i), fun H0 F0 ρ F σ H z Q S rz h => ?_⟩
  refine ka _ _ _ _ _ _ _ _ S rz (h.bind.imp fun ds z1 h vs H1 F1 G1 rz1 r1 => ?_)
  have S1 := S.grow G1
  obtain ⟨tm, k⟩ := hf F1 H1 vs ds Q S1.fh r1
  obtain ⟨a, ea, h⟩ := h.is tm
  refine k a ea fun p H' F' G n nf rv => h p H' F' (G1.trans G.of0) (G.rep0 S1.go rz1) ?_ nf rv
  cases q : H p with
  | none => rfl
  | some o => exact absurd n (G1.os p (some_ne q))
/-- one argument -/
theorem breps1 {F H : Hp} {d : D} {vs : List V} (h : BReps g F H [d] vs) : ∃ v, vs = [v] ∧ BRep g F H d v := by
  obtain ⟨v, r, e, h, t⟩ := h
  have t : r = [] := t
  subst t
  exact ⟨v, e, h⟩
theorem breps2 {F H : Hp} {d d' : D} {vs : List V} (h : BReps g F H [d, d'] vs) : ∃ v v', vs = [v, v'] ∧ BRep g F H d v ∧ BRep g F H d' v' := by
  obtain ⟨v, r, e, h, t⟩ := h
  obtain ⟨v', rfl, h'⟩ := breps1 t
  exact ⟨v, v', e, h, h'⟩
def f1 (f : D → Res D) : List D → Res D
  | [d] => f d
  | _ => .bad
def f2 (f : D → D → Res D) : List D → Res D
  | [d, e] => f d e
  | _ => .bad
theorem opN1 {r : List V → Hp → VK → Prop} {f : D → Res D} (h : ∀ (F H : Hp) (v : V) (d : D) (Q : VK), Sub F H → BRep g F H d v → ((f d).Tame ∧ ∀ a, f d = .ok a → (∀ v H' F', Grow g0 H F H' F' → RepF F' a v → Q v H') → r [v] H Q)) : OpN g r (f1 f) := by
  intro F H vs ds Q s hb
  cases ds with
  | nil => exact ⟨trivial, fun a ea => nomatch ea⟩
  | cons d ds =>
    cases ds with
    | nil =>
      obtain ⟨v, rfl, hb2⟩ := breps1 hb
      exact h F H v d Q s hb2
    | cons _ _ => exact ⟨trivial, fun a ea => nomatch ea⟩
theorem opNO1 {r : List V → Hp → VK → Prop} {f : D → Res D} (h : ∀ (F H : Hp) (v : V) (d : D) (Q : VK), Sub F H → BRep g F H d v → ((f d).Tame ∧ ∀ a, f d = .ok a → (∀ p H' F', Grow g0 H F H' F' → H p = none → F' p = none → OwnAt F' H' a p → Q (.ref p) H') → r [v] H Q)) : OpNO g r (f1 f) := by
  intro F H vs ds Q s hb
  cases ds with
  | nil => exact ⟨trivial, fun a ea => nomatch ea⟩
  | cons d ds =>
    cases ds with
    | nil =>
      obtain ⟨v, rfl, hb2⟩ := breps1 hb
      exact h F H v d Q s hb2
    | cons _ _ => exact ⟨trivial, fun a ea => nomatch ea⟩
theorem opN2 {r : List V → Hp → VK → Prop} {f : D → D → Res D} (h : ∀ (F H : Hp) (v w : V) (d e : D) (Q : VK), Sub F H → BRep g F H d v → BRep g F H e w → ((f d e).Tame ∧ ∀ a, f d e = .ok a → (∀ v H' F', Grow g0 H F H' F' → RepF F' a v → Q v H') → r [v, w] H Q)) : OpN g r (f2 f) := by
  intro F H vs ds Q s hb
  cases ds with
  | nil => exact ⟨trivial, fun a ea => nomatch ea⟩
  | cons d ds =>
    cases ds with
    | nil => exact ⟨trivial, fun a ea => nomatch ea⟩
    | cons e ds =>
      cases ds with
      | nil =>
        obtain ⟨v, w, rfl, hb2, hb'⟩ := breps2 hb
        exact h F H v w d e Q s hb2 hb'
      | cons _ _ => exact ⟨trivial, fun a ea => nomatch ea⟩
/-- len -/
def lenD (d : D) : Res D := match d with
  | .tup xs => .ok (.int xs.length)
  | .lst xs => .ok (.int xs.length)
  | .dt kvs => .ok (.int kvs.length)
  | _ => .bad
theorem opN_len {K : PySem.W.Frag} : OpN g (fun xs H Q => (∃ p ys, xs = [.ref p] ∧ (SqL K H p ys ∨ SqT K H p ys) ∧ Q (.int ys.length) H)) (f1 fun d => match d with | .tup xs => .ok (.int xs.length) | .lst xs => .ok (.int xs.length) | _ => .bad) := by
  refine opN1 fun F H v d Q s hb => ?_
  cases d with
  | tup xs =>
    refine ⟨trivial, fun a ea k => ?_⟩
    cases ea
    obtain ⟨p, vs, rfl, q, f, r⟩ := hb.tup s
    exact ⟨p, vs, rfl, .inr (SqT.of q), k _ H F (Grow.refl s) (by rw [r.length]; rfl)⟩
  | lst xs =>
    refine ⟨trivial, fun a ea k => ?_⟩
    cases ea
    obtain ⟨p, vs, rfl, q, r⟩ := hb.lst s
    exact ⟨p, vs, rfl, .inl (SqL.of q), k _ H F (Grow.refl s) (by rw [r.length]; rfl)⟩
  | _ => exact ⟨trivial, fun a ea => nomatch ea⟩
/-- the class of data -/
def clsOf : D → Option Ty
  | .bl _ => some .bool
  | .int _ => some .int
  | .str _ => some .str
  | .tup _ => some .tuple
  | .lst _ => some .list
  | .dk _ => some .dict
  | .dt _ => some .dict
  | _ => none
def isTy (t : Option Ty) (u : Ty) : Bool := match t with
  | some t => decide (t = u) || (decide (t = .bool) && decide (u = .int))
  | none => false
def isiD (d e : D) : Res D := match e with
  | .ty u => match d with
    | .ref _ => .bad
    | .ty _ => .bad
    | d => .ok (.bl (isTy (clsOf d) u))
  | _ => .bad
def tyName : Option Ty → String
  | some t => t.name
  | none => "NoneType"
theorem kit_all (t : Option Ty) (u : Ty) : kitB (tyName t) u.name = some (isTy t u) := by
  cases t with
  | none => cases u <;> decide +kernel
  | some t => cases t <;> cases u <;> decide +kernel
theorem tyX_of {K : PySem.W.Frag} {F H : Hp} {d : D} {v : V} (s : Sub F H) (h : BRep g F H d v) (n1 : ∀ a, d ≠ .ref a) (n2 : ∀ t, d ≠ .ty t) : TyX K H v (.type (tyName (clsOf d))) := by
  cases d with
  | non => rw [h.non]; exact .base .non
  | bl b => rw [h.bl]; exact .base (.bl b)
  | int i => rw [h.int]; exact .base (.int i)
  | str x => rw [h.str]; exact .base (.str x)
  | ref a => exact absurd rfl (n1 a)
  | ty t => exact absurd rfl (n2 t)
  | tup xs => obtain ⟨p, vs, rfl, q, f, r⟩ := h.tup s; exact .base (.tup q)
  | lst xs => obtain ⟨p, vs, rfl, q, r⟩ := h.lst s; exact .base (.lst q)
  | dk kvs => obtain ⟨p, vs, rfl, q, r⟩ := h.dk s; exact .base (.dK q)
  | dt kvs => obtain ⟨p, vs, rfl, q, r⟩ := h.dt s; exact .base (.dT q)
theorem opN_isi {K : PySem.W.Frag} : OpN g (rIsi K) (f2 isiD) := by
  refine opN2 fun F H v w d e Q s hb hb' => ?_
  cases e with
  | ty u =>
    have go : (∀ a, d ≠ .ref a) → (∀ t, d ≠ .ty t) → isiD d (.ty u) = .ok (.bl (isTy (clsOf d) u)) → ((isiD d (.ty u)).Tame ∧ ∀ a, isiD d (.ty u) = .ok a → (∀ v H' F', Grow g0 H F H' F' → RepF F' a v → Q v H') → rIsi K [v, w] H Q) := fun n1 n2 e => by
      rw [e]
      refine ⟨trivial, fun a ea k => ?_⟩
      cases ea
      exact ⟨v, w, _, _, _, rfl, by rw [hb'.ty]; exact .ty _, tyX_of s hb n1 n2, kit_ty (kit_all (clsOf d) u), k _ H F (Grow.refl s) rfl⟩
    cases d <;> first
      | exact go (fun a z => nomatch z) (fun t z => nomatch z) rfl
      | exact ⟨trivial, fun a ea => nomatch ea⟩
  | _ => exact ⟨trivial, fun a ea => nomatch ea⟩
theorem ev_ty {x : Str} {t : Ty} {pos : Pos} (hg : ∀ j, Gl (c.X j) x) (hm : c.mg x = none) (hv : bootBuiltins x = some (.type t.name)) (hn : x ≠ "__name__") (hd : (x == ("__debug__" : Str)) = false) : EvE (m := m) c (.Name x pos) (eC (.ty t)) :=
  ev_const (v := .ty t.name) (fun j => pe_bltn (hg j) (by rw [c.hm]; exact hm) hv rfl hn hd) fun _ => rfl
end
end Vf

namespace Vf
open PySem L2
section
open PySem.Spec PyProof.Rows
/-- a list or a tuple, walked -/
def iSeq (K : PySem.W.Frag) (tl : TE) : TI := fun σ H R => tl σ H fun x H1 => ∃ a, x = .ref a ∧ (((∃ xs, SqL K H1 a xs) ∧ R (Itl K a) H1) ∨ ((∃ xs, SqT K H1 a xs) ∧ R (Itt K a) H1))
theorem pi_seq {X : Cx} {tg l : Expr} {tl : TE} (hl : PE X l tl) : PI X tg l (iSeq X.K tl) := by
  refine ⟨fun pins s σ H R I h => ?_⟩
  refine thn (hl.run pins s σ H _ I h) fun v s1 ⟨x, H1, I1, r1, q1⟩ => ?_
  obtain ⟨a, e, ⟨⟨xs, hq⟩, q⟩ | ⟨⟨xs, hq⟩, q⟩⟩ := q1
  · subst e
    cases r1
    obtain ⟨its, rv, p, hz⟩ := I1.list hq
    refine wpAny_pyIter_list p.isList ?_
    refine ⟨s1.heap.objs.size, [s1.heap.objs.size], _, _, H1, rfl, I1.kept (t' := s1.toks) fun b o e => Heap.get?_push_of_some _ e, turn_list a _, ⟨_, Heap.get?_push_size _ rfl, rfl, rfl⟩, fun b hb => ?_, q⟩
    have e : b = s1.heap.objs.size := by simpa using hb
    subst e
    exact I1.fpOk (Nat.le_refl _) (I1.hok.fresh (Nat.le_refl _))
  · subst e
    cases r1
    obtain ⟨its, rv, p, hz⟩ := I1.tuple hq
    refine wpAny_pyIter_tuple (show s1.heap.IsTuple a its.toArray from p) ?_
    refine ⟨s1.heap.objs.size, [s1.heap.objs.size], _, _, H1, rfl, I1.kept (t' := s1.toks) fun b o e => Heap.get?_push_of_some _ e, turn_tuple a _, ⟨_, Heap.get?_push_size _ rfl, rfl, rfl⟩, fun b hb => ?_, q⟩
    have e : b = s1.heap.objs.size := by simpa using hb
    subst e
    exact I1.fpOk (Nat.le_refl _) (I1.hok.fresh (Nat.le_refl _))
end
section
variable {ι Z : Type} {m : Type → Type} [Eff m Z] {c : Ct ι Z} {g : Cg Z}
/-- an iterator yields these data while the state is as told -/
structure Walks (J : It) (K : PySem.W.Frag) (ds : List D) (St : Hp → Hp → Prop) : Prop where
  go : ∀ i F H, St F H → i < ds.length → J.go i H
  stop : ∀ i F H, St F H → ds.length ≤ i → J.stop i H
  yld : ∀ i F H x H', St F H → Sub F H → i < ds.length → J.yld i H x H' → ∃ d F', ds[i]? = some d ∧ Grow g0 H F H' F' ∧ RepF F' d x
def Frz (F : Hp) : Hp → Hp → Prop := fun F2 H2 => Sub F F2 ∧ Sub F2 H2
def Lent (g : Cg Z) (H F : Hp) : Hp → Hp → Prop := fun F2 H2 => Grow g H F H2 F2
def EvI (c : Ct ι Z) (tg iter : Expr) (f : Sto → m (List D)) : Prop := ∃ wi : TI, (∀ i, PI (c.X i) tg iter wi) ∧ ∀ (H0 F0 : Hp) (ρ : Sto) (F : Hp) (σ : L2.St) (H : Hp) (z : Z) (R : It → Hp → Prop), Sta c.g H0 F0 ρ F σ H → c.g.rep z H →
  OkP c H0 F0 (Eff.run (f ρ) z) (fun ds z' => ∀ J H' F', Grow c.g H F H' F' → c.g.rep z' H' → Walks J c.K ds (Frz F') → R J H') → wi σ H R
/-- .. that may walk what a slot owns -/
def EvIB (c : Ct ι Z) (tg iter : Expr) (f : Sto → m (List D)) : Prop := ∃ wi : TI, (∀ i, PI (c.X i) tg iter wi) ∧ ∀ (H0 F0 : Hp) (ρ : Sto) (F : Hp) (σ : L2.St) (H : Hp) (z : Z) (R : It → Hp → Prop), Sta c.g H0 F0 ρ F σ H → c.g.rep z H →
  OkP c H0 F0 (Eff.run (f ρ) z) (fun ds z' => ∀ J H' F', Grow c.g H F H' F' → c.g.rep z' H' → Walks J c.K ds (Lent c.g H' F') → R J H') → wi σ H R
theorem Walks.weak {J : It} {K : PySem.W.Frag} {ds : List D} {S S' : Hp → Hp → Prop} (w : Walks J K ds S) (h : ∀ F H, S' F H → S F H) : Walks J K ds S' :=
  ⟨fun i F H s => w.go i F H (h F H s), fun i F H s => w.stop i F H (h F H s), fun i F H x H' s => w.yld i F H x H' (h F H s)⟩
theorem EvI.toB {tg iter : Expr} {f : Sto → m (List D)} (h : EvI c tg iter f) : EvIB c tg iter f := by
  obtain ⟨wi, p, k⟩ := h
  exact ⟨wi, p, fun H0 F0 ρ F σ H z R S rz h => k H0 F0 ρ F σ H z R S rz (h.imp fun ds z' h J H' F' G rz' w => h J H' F' G rz' (w.weak fun F2 H2 l => ⟨l.ff, l.fh⟩))⟩
theorem sqL_one {K : PySem.W.Frag} {H : Hp} {a : Addr} {vs xs : List V} (e : H a = some (.lst vs)) : (∀ xs, SqL K H a xs → xs[0]? = xs[0]?) := fun _ _ => rfl
/-- what stands as a list over F -/
theorem walks_list {K : PySem.W.Frag} {a : Addr} {ds : List D} {vs : List V} {F : Hp} {S : Hp → Hp → Prop} (r : RepFs F ds vs) (hs : ∀ F2 H2, S F2 H2 → H2 a = some (.lst vs) ∧ Sub F F2) : Walks (Itl K a) K ds S := by
  refine ⟨fun i F2 H2 s hi => ?_, fun i F2 H2 s hi => ?_, fun i F2 H2 x H' s fh hi y => ?_⟩
  · obtain ⟨q, _⟩ := hs _ _ s
    have hl : i < vs.length := by rw [← r.length]; exact hi
    exact ⟨vs, vs[i], SqL.of q, by simp [hl]⟩
  · obtain ⟨q, _⟩ := hs _ _ s
    exact ⟨vs, SqL.of q, by rw [← r.length]; exact hi⟩
  · obtain ⟨q, ff⟩ := hs _ _ s
    obtain ⟨e, y⟩ := y
    subst e
    obtain ⟨d, ed, rd⟩ := r.get (y vs (SqL.of q))
    exact ⟨d, F2, ed, Grow.refl fh, RepF.mono ff _ _ rd⟩
theorem walks_tup {K : PySem.W.Frag} {a : Addr} {ds : List D} {vs : List V} {F : Hp} {S : Hp → Hp → Prop} (r : RepFs F ds vs) (hs : ∀ F2 H2, S F2 H2 → H2 a = some (.tup vs) ∧ Sub F F2) : Walks (Itt K a) K ds S := by
  refine ⟨fun i F2 H2 s hi => ?_, fun i F2 H2 s hi => ?_, fun i F2 H2 x H' s fh hi y => ?_⟩
  · obtain ⟨q, _⟩ := hs _ _ s
    have hl : i < vs.length := by rw [← r.length]; exact hi
    exact ⟨vs, vs[i], SqT.of q, by simp [hl]⟩
  · obtain ⟨q, _⟩ := hs _ _ s
    exact ⟨vs, SqT.of q, by rw [← r.length]; exact hi⟩
  · obtain ⟨q, ff⟩ := hs _ _ s
    obtain ⟨e, y⟩ := y
    subst e
    obtain ⟨d, ed, rd⟩ := r.get (y vs (SqT.of q))
    exact ⟨d, F2, ed, Grow.refl fh, RepF.mono ff _ _ rd⟩
def rangeD (lo : Int) (n : Nat) : List D := (List.range n).map fun i => .int (lo + (i : Nat))
theorem rangeD_length (lo : Int) (n : Nat) : (rangeD lo n).length = n := by unfold rangeD; rw [List.length_map, List.length_range]
theorem rangeD_get {lo : Int} {n i : Nat} (h : i < n) : (rangeD lo n)[i]? = some (.int (lo + (i : Nat))) := by
  unfold rangeD
  rw [List.getElem?_map, List.getElem?_range h]; rfl
theorem walks_range {K : PySem.W.Frag} {lo : Int} {n : Nat} {S : Hp → Hp → Prop} : Walks (Itr lo n) K (rangeD lo n) S := by
  refine ⟨fun i F2 H2 s hi => ?_, fun i F2 H2 s hi => ?_, fun i F2 H2 x H' s fh hi y => ?_⟩
  · rw [rangeD_length] at hi; exact hi
  · rw [rangeD_length] at hi; exact hi
  · obtain ⟨e, y⟩ := y
    subst e y
    rw [rangeD_length] at hi
    exact ⟨_, F2, rangeD_get hi, Grow.refl fh, rfl⟩
def seqD (d : D) : Res (List D) := match d with
  | .lst xs => .ok xs
  | .tup xs => .ok xs
  | _ => .bad
def iS (f : Sto → m D) : Sto → m (List D) := fun ρ => do
  let d ← f ρ
  Eff.lift (seqD d)
theorem evi_seq {tg e : Expr} {f : Sto → m D} (h : EvE c e f) : EvI c tg e (iS f) := by
  obtain ⟨t, p, k⟩ := h
  refine ⟨iSeq c.K t, fun i => by have := pi_seq (tg := tg) (p i); rwa [c.hK i] at this, fun H0 F0 ρ F σ H z R S rz h => ?_⟩
  refine k _ _ _ _ _ _ _ _ S rz (h.bind.imp fun d z1 h v H1 F1 G1 rz1 r => ?_)
  have S1 := S.grow G1
  cases d with
  | lst xs =>
    obtain ⟨a, vs, rfl, q, r⟩ := r
    exact ⟨a, rfl, .inl ⟨⟨vs, SqL.of (S1.fh _ _ q)⟩, h.lift _ _ _ G1 rz1 (walks_list r fun F2 H2 s => ⟨s.2 _ _ (s.1 _ _ q), s.1⟩)⟩⟩
  | tup xs =>
    obtain ⟨a, vs, rfl, q, r⟩ := r
    exact ⟨a, rfl, .inr ⟨⟨vs, SqT.of (S1.fh _ _ q)⟩, h.lift _ _ _ G1 rz1 (walks_tup r fun F2 H2 s => ⟨s.2 _ _ (s.1 _ _ q), s.1⟩)⟩⟩
  | _ => exact h.lift.elim
theorem evib_seq {tg e : Expr} {f : Sto → m D} (h : EvB c e f) : EvIB c tg e (iS f) := by
  obtain ⟨t, p, k⟩ := h
  refine ⟨iSeq c.K t, fun i => by have := pi_seq (tg := tg) (p i); rwa [c.hK i] at this, fun H0 F0 ρ F σ H z R S rz h => ?_⟩
  refine k _ _ _ _ _ _ _ _ S rz (h.bind.imp fun d z1 h v H1 F1 G1 rz1 r => ?_)
  have S1 := S.grow G1
  cases d with
  | lst xs =>
    rcases r with ⟨a, vs, rfl, q, r⟩ | ⟨a, rfl, n, vs, q, r⟩
    · exact ⟨a, rfl, .inl ⟨⟨vs, SqL.of (S1.fh _ _ q)⟩, h.lift _ _ _ G1 rz1 (walks_list r fun F2 H2 s => ⟨s.fh _ _ (s.ff _ _ q), s.ff⟩)⟩⟩
    · exact ⟨a, rfl, .inl ⟨⟨vs, SqL.of q⟩, h.lift _ _ _ G1 rz1 (walks_list r fun F2 H2 s => ⟨s.hh _ _ n q, s.ff⟩)⟩⟩
  | tup xs =>
    obtain ⟨a, vs, rfl, q, f, r⟩ := r.tup S1.fh
    exact ⟨a, rfl, .inr ⟨⟨vs, SqT.of q⟩, h.lift _ _ _ G1 rz1 (walks_tup r fun F2 H2 s => ⟨s.fh _ _ (s.ff _ _ f), s.ff⟩)⟩⟩
  | _ => exact h.lift.elim
def rng1 (d : List D) : Res (List D) := match d with
  | [.int j] => if -4611686018427387904 ≤ j ∧ j < 4611686018427387904 then .ok (rangeD 0 j.toNat) else .bad
  | _ => .bad
def rng2 (d : List D) : Res (List D) := match d with
  | [.int i, .int j] => if (-4611686018427387904 ≤ i ∧ i < 4611686018427387904) ∧ (-4611686018427387904 ≤ j ∧ j < 4611686018427387904) then .ok (rangeD i (j - i).toNat) else .bad
  | _ => .bad
def iR (f : List D → Res (List D)) (a : Sto → m (List D)) : Sto → m (List D) := fun ρ => do
  let ds ← a ρ
  Eff.lift (f ds)
theorem rng1_tame (ds : List D) : (rng1 ds).Tame := by
  unfold rng1
  split
  · split <;> trivial
  · trivial
theorem rng1_ok {ds xs : List D} (h : rng1 ds = .ok xs) : ∃ j, ds = [.int j] ∧ (-4611686018427387904 ≤ j ∧ j < 4611686018427387904) ∧ xs = rangeD 0 j.toNat := by
  unfold rng1 at h
  split at h
  · obtain ⟨q, h⟩ := ite_ok h
    cases h
    exact ⟨_, rfl, q, rfl⟩
  · cases h
theorem rng2_tame (ds : List D) : (rng2 ds).Tame := by
  unfold rng2
  split
  · split <;> trivial
  · trivial
theorem rng2_ok {ds xs : List D} (h : rng2 ds = .ok xs) : ∃ i j, ds = [.int i, .int j] ∧ ((-4611686018427387904 ≤ i ∧ i < 4611686018427387904) ∧ (-4611686018427387904 ≤ j ∧ j < 4611686018427387904)) ∧ xs = rangeD i (j - i).toNat := by
  unfold rng2 at h
  split at h
  · obtain ⟨q, h⟩ := ite_ok h
    cases h
    exact ⟨_, _, rfl, q, rfl⟩
  · cases h
theorem evi_range1 {tg a : Expr} {f : Sto → m (List D)} {p pos : Pos} (hg : ∀ i, Gl (c.X i) "range") (hm : c.mg "range" = none) (ha : EvA c [a] f) (hs : ∀ i, starEach [a] (c.X i).env = [(false, eval a (c.X i).env)]) :
    EvI c tg (.Call (.Name "range" p) [a] [] pos) (iR rng1 f) := by
  obtain ⟨t, pa, k⟩ := ha
  refine ⟨iRng1 t, fun i => pi_range1 (hg i) ((congrFun (c.hm i) _).trans hm) (pa i) (hs i), fun H0 F0 ρ F σ H z R S rz h => ?_⟩
  refine k H0 F0 ρ F σ H z _ S rz (h.bind.imp fun ds z1 h vs H1 F1 G1 rz1 r => ?_)
  obtain ⟨xs, ex, h⟩ := h.is (rng1_tame ds)
  obtain ⟨j, rfl, ⟨q1, q2⟩, rfl⟩ := rng1_ok ex
  obtain ⟨v, rfl, rb⟩ := breps1 r
  exact ⟨j, by rw [rb.int], q1, q2, h _ _ _ G1 rz1 walks_range⟩
theorem evi_range2 {tg a b : Expr} {f : Sto → m (List D)} {p pos : Pos} (hg : ∀ i, Gl (c.X i) "range") (hm : c.mg "range" = none) (ha : EvA c [a, b] f) (hs : ∀ i, starEach [a, b] (c.X i).env = [(false, eval a (c.X i).env), (false, eval b (c.X i).env)])
    (hs2 : ∀ i, starEach [b] (c.X i).env = [(false, eval b (c.X i).env)]) : EvI c tg (.Call (.Name "range" p) [a, b] [] pos) (iR rng2 f) := by
  obtain ⟨t, pa, k⟩ := ha
  refine ⟨iRng2 t, fun i => pi_range2 (hg i) ((congrFun (c.hm i) _).trans hm) (pa i) (hs i) (hs2 i), fun H0 F0 ρ F σ H z R S rz h => ?_⟩
  refine k H0 F0 ρ F σ H z _ S rz (h.bind.imp fun ds z1 h vs H1 F1 G1 rz1 r => ?_)
  obtain ⟨xs, ex, h⟩ := h.is (rng2_tame ds)
  obtain ⟨i, j, rfl, ⟨⟨q1, q2⟩, q3, q4⟩, rfl⟩ := rng2_ok ex
  obtain ⟨v, w, rfl, rb, rb'⟩ := breps2 r
  exact ⟨i, j, by rw [rb.int, rb'.int], ⟨q1, q2, q3, q4⟩, h _ _ _ G1 rz1 walks_range⟩

/-! ### targets -/

/-- from σ to σ' only these slots change -/
def Touch (vs : List Nat) (σ σ' : L2.St) : Prop := ∀ us : List Nat, (∀ i ∈ vs, i ∈ us) → wipe σ' us = wipe σ us
theorem wipe_set {i : Nat} {x : Option V} : ∀ {us : List Nat} {σ : L2.St}, i ∈ us → wipe (σ.set i x) us = wipe σ us
  | [], _, h => by cases h
  | u :: us, σ, h => by
    unfold wipe
    by_cases q : i ∈ us
    · rw [wipe_set q]
    · have e : i = u := by
        rcases List.mem_cons.mp h with e | e
        · exact e
        · exact absurd e q
      subst e
      have go : ∀ us : List Nat, i ∉ us → wipe (σ.set i x) us = (wipe σ us).set i x := fun us => by
        induction us with
        | nil => intro _; rfl
        | cons v us ih =>
          intro hn
          rw [List.mem_cons, not_or] at hn
          unfold wipe
          rw [ih hn.2, List.set_comm _ _ hn.1]
      rw [go us q, List.set_set]
theorem Touch.refl {vs : List Nat} {σ : L2.St} : Touch vs σ σ := fun _ _ => rfl
def EvG (c : Ct ι Z) (tg : Expr) (us : List Nat) (f : D → Sto → Option Sto) : Prop := ∃ t : TG, (∀ i, PG (c.X i) tg t) ∧ ∀ (H0 F0 : Hp) (ρ ρ' : Sto) (F : Hp) (σ : L2.St) (H : Hp) (d : D) (v : V) (Q : L2.St → Hp → Prop), Sta c.g H0 F0 ρ F σ H → RepF F d v →
  f d ρ = some ρ' → (∀ σ', Sta c.g H0 F0 ρ' F σ' H → Touch us σ σ' → Q σ' H) → t v σ H Q
def EvGs (c : Ct ι Z) (tgs : List Expr) (us : List Nat) (f : List D → Sto → Option Sto) : Prop := ∃ t : TGs, (∀ i, PGs (c.X i) tgs t) ∧ ∀ (H0 F0 : Hp) (ρ ρ' : Sto) (F : Hp) (σ : L2.St) (H : Hp) (ds : List D) (vs : List V) (Q : L2.St → Hp → Prop), Sta c.g H0 F0 ρ F σ H → RepFs F ds vs →
  f ds ρ = some ρ' → (∀ σ', Sta c.g H0 F0 ρ' F σ' H → Touch us σ σ' → Q σ' H) → t vs σ H Q
theorem Sta.set {H0 F0 F H : Hp} {ρ : Sto} {σ : L2.St} {d : D} {v : V} (S : Sta g H0 F0 ρ F σ H) (i : Nat) (r : RepF F d v) : Sta g H0 F0 (ρ.set i (.sh d)) F (σ.set i (some v)) H := by
  refine ⟨S.gr, S.go, S.gf, by rw [List.length_set, List.length_set]; exact S.len, fun j s e => ?_, fun j k d1 e1 a h1 h2 h3 h4 => ?_⟩
  · by_cases q : i = j
    · subst q
      by_cases hl : i < ρ.length
      · rw [List.getElem?_set_self hl] at e
        cases e
        exact ⟨some v, List.getElem?_set_self (by rw [S.len]; exact hl), v, rfl, r⟩
      · rw [List.getElem?_eq_none (by rw [List.length_set]; omega)] at e; cases e
    · rw [List.getElem?_set_ne q] at e ⊢
      exact S.sl j s e
  · by_cases q1 : i = j
    · subst q1
      by_cases hl : i < ρ.length
      · rw [List.getElem?_set_self hl] at h1; cases h1
      · rw [List.getElem?_eq_none (by rw [List.length_set]; omega)] at h1; cases h1
    · by_cases q2 : i = k
      · subst q2
        by_cases hl : i < ρ.length
        · rw [List.getElem?_set_self hl] at h2; cases h2
        · rw [List.getElem?_eq_none (by rw [List.length_set]; omega)] at h2; cases h2
      · rw [List.getElem?_set_ne q1] at h1 h3
        rw [List.getElem?_set_ne q2] at h2 h4
        exact S.inj j k d1 e1 a h1 h2 h3 h4
def gN (i : Nat) : D → Sto → Option Sto := fun d ρ => some (ρ.set i (.sh d))
theorem evg_name (i : Nat) {x : Str} {pos : Pos} (hi : ∀ j, (c.X j).N[i]? = some x) (hx : ∀ j, Loc (c.X j).env.scope x) (hf : ∀ j, (c.X j).fn x = true ∨ (c.X j).env.scope.names.lookup x = some .local) : EvG c (.Name x pos) [i] (gN i) := by
  refine ⟨_, fun j => pg_name (c.nd j) (hi j) (hx j) (hf j), fun H0 F0 ρ ρ' F σ H d v Q S r e k => ?_⟩
  cases e
  exact k _ (S.set i r) fun us h => wipe_set (h i List.mem_cons_self)
def gsNil : List D → Sto → Option Sto := fun ds ρ => match ds with
  | [] => some ρ
  | _ => none
def gsCons (f : D → Sto → Option Sto) (fs : List D → Sto → Option Sto) : List D → Sto → Option Sto := fun ds ρ => match ds with
  | d :: ds => match f d ρ with
    | some ρ' => fs ds ρ'
    | none => none
  | _ => none
theorem evgs_nil : EvGs c [] [] gsNil := by
  refine ⟨_, fun _ => pgs_nil, fun H0 F0 ρ ρ' F σ H ds vs Q S r e k => ?_⟩
  cases ds with
  | nil => cases e; exact ⟨r, k σ S Touch.refl⟩
  | cons _ _ => cases e
theorem evgs_cons {e : Expr} {es : List Expr} {f : D → Sto → Option Sto} {fs : List D → Sto → Option Sto} {u1 u2 : List Nat} (ha : EvG c e u1 f) (hr : EvGs c es u2 fs) (hs : ∀ i, (assignEach (e :: es) (c.X i).env).map (·.2) = assign e (c.X i).env :: (assignEach es (c.X i).env).map (·.2)) :
    EvGs c (e :: es) (u1 ++ u2) (gsCons f fs) := by
  obtain ⟨t, p, k⟩ := ha
  obtain ⟨ts, ps, ks⟩ := hr
  refine ⟨_, fun i => pgs_cons (p i) (ps i) (hs i), fun H0 F0 ρ ρ' F σ H ds vs Q S r e kk => ?_⟩
  cases ds with
  | nil => cases e
  | cons d ds =>
    obtain ⟨v, vr, ev, rd, rds⟩ := r
    unfold gsCons at e
    cases q : f d ρ with
    | none => simp only [q] at e; cases e
    | some ρ1 =>
      simp only [q] at e
      exact ⟨v, vr, ev, k H0 F0 ρ ρ1 F σ H d v _ S rd q fun σ1 S1 t1 => ks H0 F0 ρ1 ρ' F σ1 H ds vr Q S1 rds e fun σ2 S2 t2 => kk σ2 S2 fun us h => (t2 us fun i hi => h i (List.mem_append_right _ hi)).trans (t1 us fun i hi => h i (List.mem_append_left _ hi))⟩
def gT (n : Nat) (fs : List D → Sto → Option Sto) : D → Sto → Option Sto := fun d ρ => match d with
  | .tup ds => if ds.length = n then fs ds ρ else none
  | _ => none
theorem evg_tup {es : List Expr} {k : Nat} {pos : Pos} {n : Nat} {fs : List D → Sto → Option Sto} {us : List Nat} (h : EvGs c es us fs) (hn : ∀ i, (assignEach es (c.X i).env).length = n) (hst : ∀ i, (assignEach es (c.X i).env).findIdx? (·.1) = none) : EvG c (.Tuple es k pos) us (gT n fs) := by
  obtain ⟨ts, ps, ks⟩ := h
  refine ⟨gTup c.K n ts, fun i => by have := pg_tup (k := k) (pos := pos) (c.calm i) (ps i) (hn i) (hst i); rwa [c.hK i] at this, fun H0 F0 ρ ρ' F σ H d v Q S r e kk => ?_⟩
  cases d with
  | tup ds =>
    unfold gT at e
    by_cases q : ds.length = n
    · simp only [if_pos q] at e
      obtain ⟨a, vs, rfl, qa, rv⟩ := r
      exact ⟨a, vs, rfl, SqT.of (S.fh _ _ qa), by rw [← rv.length]; exact q, ks H0 F0 ρ ρ' F σ H ds vs Q S rv e kk⟩
    · simp only [if_neg q] at e; cases e
  | _ => cases e
end
end Vf

namespace Vf
open PySem L2
section
variable {ι Z : Type} {m : Type → Type} [Eff m Z] {g : Cg Z}
/-- a comprehension's block: no exception leaves it -/
abbrev BlkIx (ι : Type) : Type := ι × Shared × Hp × Addr × List (Str × Addr) × List Addr
abbrev Ct.blk (c : Ct ι Z) (scope : Scope) : Ct (BlkIx ι) Z where
  X := fun j => (c.X j.1).blk j.2.1 j.2.2.1 scope (compEnvC scope j.2.2.2.2.1 j.2.2.2.1 (c.X j.1).env) j.2.2.2.2.2
  P := c.P
  w := c.w
  K := c.K
  mg := c.mg
  base := c.base
  CX := c.CX
  E := E0
  xr := c.xr
  g := c.g
  k := c.k
  hP := fun j => c.hP j.1
  hw := fun j => c.hw j.1
  hK := fun j => c.hK j.1
  hm := fun j => c.hm j.1
  hb := fun j => c.hb j.1
  calm := fun j => c.calm j.1
  room := fun j => c.room j.1
  nd := fun j => c.nd j.1
  hx := fun j => c.hx0 _ (c.hP j.1) (c.hw j.1)
  hx0 := c.hx0
variable {c : Ct ι Z}
def wipeS (ρ : Sto) : List Nat → Sto
  | [] => ρ
  | v :: vs => (wipeS ρ vs).set v .no
theorem Sta.forget {H0 F0 F H : Hp} {ρ : Sto} {σ : L2.St} (S : Sta g H0 F0 ρ F σ H) (i : Nat) (x : Option V) : Sta g H0 F0 (ρ.set i .no) F (σ.set i x) H := by
  refine ⟨S.gr, S.go, S.gf, by rw [List.length_set, List.length_set]; exact S.len, fun j s e => ?_, fun j k d1 e1 a h1 h2 h3 h4 => ?_⟩
  · by_cases q : i = j
    · subst q
      by_cases hl : i < ρ.length
      · rw [List.getElem?_set_self hl] at e
        cases e
        exact ⟨x, List.getElem?_set_self (by rw [S.len]; exact hl), trivial⟩
      · rw [List.getElem?_eq_none (by rw [List.length_set]; omega)] at e; cases e
    · rw [List.getElem?_set_ne q] at e ⊢
      exact S.sl j s e
  · by_cases q1 : i = j
    · subst q1
      by_cases hl : i < ρ.length
      · rw [List.getElem?_set_self hl] at h1; cases h1
      · rw [List.getElem?_eq_none (by rw [List.length_set]; omega)] at h1; cases h1
    · by_cases q2 : i = k
      · subst q2
        by_cases hl : i < ρ.length
        · rw [List.getElem?_set_self hl] at h2; cases h2
        · rw [List.getElem?_eq_none (by rw [List.length_set]; omega)] at h2; cases h2
      · rw [List.getElem?_set_ne q1] at h1 h3
        rw [List.getElem?_set_ne q2] at h2 h4
        exact S.inj j k d1 e1 a h1 h2 h3 h4
theorem Sta.wipe {H0 F0 F H : Hp} {ρ : Sto} {σ : L2.St} (S : Sta g H0 F0 ρ F σ H) : ∀ vs : List Nat, Sta g H0 F0 (wipeS ρ vs) F (L2.wipe σ vs) H
  | [] => S
  | v :: vs => (S.wipe vs).forget v none
theorem Grow.poke {H F H' F' : Hp} {p : Addr} {o : HO} (G : Grow g H F H' F') (n : H p = none) (nf : F' p = none) : Grow g H F (upd H' p o) F' := by
  refine ⟨fun a u no e => ?_, fun a e => ?_, G.ff, fun a u e => ?_, G.nw⟩
  · rw [upd_ne (ne_of_none e n)]; exact G.hh _ _ no e
  · obtain ⟨u, e'⟩ := none_ne e
    rw [upd_ne (ne_of_none e' n)]; exact G.os _ e
  · rw [upd_ne (ne_of_none e nf)]; exact G.fh _ _ e
theorem rep_poke {H H' : Hp} {z : Z} {p : Addr} {o : HO} (go : ∀ a, g.own a → H a ≠ none) (n : H p = none) (r : g.rep z H') : g.rep z (upd H' p o) :=
  g.loc z H' _ r fun a ha => upd_ne fun e => go a ha (e ▸ n)
def EvTs (c : Ct ι Z) (es : List Expr) (f : Sto → m Bool) : Prop := ∃ t : TT, (∀ i, PTs (c.X i) es t) ∧ ∀ (H0 F0 : Hp) (ρ : Sto) (F : Hp) (σ : L2.St) (H : Hp) (z : Z) (Q : Bool → Hp → Prop), Sta c.g H0 F0 ρ F σ H → c.g.rep z H →
  OkP c H0 F0 (Eff.run (f ρ) z) (fun b z' => ∀ H' F', Grow c.g H F H' F' → c.g.rep z' H' → Q b H') → t σ H Q
def tYes' : Sto → m Bool := fun _ => pure true
theorem evts_nil : EvTs (m := m) c [] tYes' := ⟨tYes, fun _ => pts_nil, fun H0 F0 ρ F σ H z Q S rz h => (OkP.pure (c := c) h) H F (Grow.refl S.fh) rz⟩
theorem evts_one {e : Expr} {f : Sto → m Bool} (h : EvT c e f) : EvTs c [e] f := let ⟨t, p, k⟩ := h; ⟨t, fun i => pts_one (p i), k⟩
/-- the turns of a comprehension -/
def lcGo (ρ : Sto) (tg : D → Sto → Option Sto) (tt : Sto → m Bool) (el : Sto → m D) : List D → m (List D)
  | [] => pure []
  | d :: ds => match tg d ρ with
    | some ρ2 => do
      let b ← tt ρ2
      if b then do
        let y ← el ρ2
        let r ← lcGo ρ tg tt el ds
        pure (y :: r)
      else lcGo ρ tg tt el ds
    | none => bad
def eLc (it : Sto → m (List D)) (tg : D → Sto → Option Sto) (vs : List Nat) (tt : Sto → m Bool) (el : Sto → m D) : Sto → m D := fun ρ => do
  let ds ← it ρ
  if ds.length ≤ lim then do
    let xs ← Eff.nox (lcGo (wipeS ρ vs) tg tt el ds)
    pure (.lst xs)
  else bad
theorem wipe_get {σ : L2.St} {i : Nat} : ∀ vs : List Nat, (L2.wipe σ vs)[i]? = if i ∈ vs then (σ[i]?).map (fun _ => none) else σ[i]?
  | [] => by simp [L2.wipe]
  | v :: vs => by
    unfold L2.wipe
    by_cases q : v = i
    · subst q
      rw [if_pos List.mem_cons_self]
      by_cases hl : v < σ.length
      · rw [List.getElem?_set_self (by rw [L2.wipe_length]; exact hl), List.getElem?_eq_getElem hl]; rfl
      · rw [List.getElem?_eq_none (by rw [List.length_set, L2.wipe_length]; omega), List.getElem?_eq_none (by omega)]; rfl
    · rw [List.getElem?_set_ne q, wipe_get vs]
      have e : (i ∈ v :: vs) = (i ∈ vs) := by
        rw [List.mem_cons]
        exact propext ⟨fun h => h.elim (fun z => absurd z.symm q) id, .inr⟩
      simp only [e]
theorem wipe_idem {σ : L2.St} (vs : List Nat) : L2.wipe (L2.wipe σ vs) vs = L2.wipe σ vs := by
  apply List.ext_getElem?
  intro i
  rw [wipe_get, wipe_get]
  split
  · cases σ[i]? <;> rfl
  · rfl
theorem OkP.nox {ι' : Type} {c' : Ct ι' Z} {H0 F0 : Hp} {α : Type} {x : m α} {z : Z} {p : α → Z → Prop} (h : OkP c H0 F0 (Eff.run (Eff.nox x) z) p) : OkP c' H0 F0 (Eff.run x z) p := by
  rw [Eff.run_nox] at h
  cases q : Eff.run x z with
  | ok a z' => rw [q] at h; exact h
  | ex e z' => rw [q] at h; exact h.elim
  | bad => rw [q] at h; exact h.elim
/-- a comprehension's reading -/
theorem lc_read {wi : TI} {gt : TG} {tt : TT} {te : TE} {vs us : List Nat} {it : Sto → m (List D)} {tg : D → Sto → Option Sto} {ft : Sto → m Bool} {fe : Sto → m D} {c' : Ct (BlkIx ι) Z} (hg' : c'.g = c.g) (hE : c'.E = E0) (hxr : c'.xr = c.xr)
    (hu : ∀ i ∈ us, i ∈ vs)
    (ki : ∀ (H0 F0 : Hp) (ρ : Sto) (F : Hp) (σ : L2.St) (H : Hp) (z : Z) (R : It → Hp → Prop), Sta c.g H0 F0 ρ F σ H → c.g.rep z H →
      OkP c H0 F0 (Eff.run (it ρ) z) (fun ds z' => ∀ J H' F', Grow c.g H F H' F' → c.g.rep z' H' → Walks J c.K ds (Lent c.g H' F') → R J H') → wi σ H R)
    (kg : ∀ (H0 F0 : Hp) (ρ ρ' : Sto) (F : Hp) (σ : L2.St) (H : Hp) (d : D) (v : V) (Q : L2.St → Hp → Prop), Sta c.g H0 F0 ρ F σ H → RepF F d v →
      tg d ρ = some ρ' → (∀ σ', Sta c.g H0 F0 ρ' F σ' H → Touch us σ σ' → Q σ' H) → gt v σ H Q)
    (kt : ∀ (H0 F0 : Hp) (ρ : Sto) (F : Hp) (σ : L2.St) (H : Hp) (z : Z) (Q : Bool → Hp → Prop), Sta c.g H0 F0 ρ F σ H → c.g.rep z H →
      OkP c' H0 F0 (Eff.run (ft ρ) z) (fun b z' => ∀ H' F', Grow c.g H F H' F' → c.g.rep z' H' → Q b H') → tt σ H Q)
    (ke : ∀ (H0 F0 : Hp) (ρ : Sto) (F : Hp) (σ : L2.St) (H : Hp) (z : Z) (Q : VK), Sta c.g H0 F0 ρ F σ H → c.g.rep z H →
      OkP c' H0 F0 (Eff.run (fe ρ) z) (fun d z' => ∀ v H' F', Grow c.g H F H' F' → c.g.rep z' H' → RepF F' d v → Q v H') → te σ H Q)
    {H0 F0 : Hp} {ρ : Sto} {F : Hp} {σ : L2.St} {H : Hp} {z : Z} {Q : VK} (S : Sta c.g H0 F0 ρ F σ H) (rz : c.g.rep z H)
    (h1 : OkP c H0 F0 (Eff.run (it ρ) z) (fun ds z1 => ds.length ≤ lim ∧ OkP c' H0 F0 (Eff.run (lcGo (wipeS ρ vs) tg ft fe ds) z1) fun xs z' => ∀ a H' F', Grow c.g H F H' F' → c.g.rep z' H' → H a = none → F' a = none → OwnAt F' H' (.lst xs) a → Q (.ref a) H')) :
    tLc wi gt tt te vs σ H Q := by
  refine ki _ _ _ _ _ _ _ _ S rz (h1.imp fun ds z1 h J H1 F1 G1 rz1 w => ?_)
  obtain ⟨hl, h⟩ := h
  have S1 := S.grow G1
  intro D hD
  have n0 : H D = none := by
    cases q : H D with
    | none => rfl
    | some o => exact absurd hD (G1.os _ (some_ne q))
  have nF : F1 D = none := S1.freeF hD
  have noD : ¬ c.g.own D := fun o => S1.go D o hD
  refine ⟨fun i k Hi => k = ds.length - i ∧ i ≤ ds.length ∧ ∃ Fi zi accD acc, Grow c.g H1 F1 Hi Fi ∧ c.g.rep zi Hi ∧ Hi D = some (.lst acc) ∧ Fi D = none ∧ RepFs Fi accD acc ∧ acc.length ≤ i ∧
      OkP c' H0 F0 (Eff.run (lcGo (wipeS ρ vs) tg ft fe (ds.drop i)) zi) (fun r z' => ∀ H' F' acc', Grow c.g H1 F1 H' F' → c.g.rep z' H' → H' D = some (.lst acc') → F' D = none → RepFs F' (accD ++ r) acc' → Q (.ref D) H'), ⟨_, rfl, Nat.zero_le _, F1, z1, [], [], ?_, ?_, upd_same, nF, rfl, Nat.le_refl _, ?_⟩, ?_⟩
  · exact (Grow.refl S1.fh).poke hD nF
  · exact rep_poke S1.go hD rz1
  · rw [List.drop_zero]
    exact h.imp fun xs z' h H' F' acc' G' rz' e nf r => h D H' F' (G1.trans G') rz' n0 nf ⟨acc', e, r⟩
  · rintro i k Hi ⟨rfl, hi, Fi, zi, accD, acc, Gi, rzi, eD, nFi, ra, la, h⟩
    have Si := S1.grow Gi
    by_cases hlt : i < ds.length
    · refine .inr ⟨w.go i Fi Hi Gi hlt, fun H' => ∃ k', k' < ds.length - i ∧ (k' = ds.length - (i + 1) ∧ i + 1 ≤ ds.length ∧ ∃ Fi zi accD acc, Grow c.g H1 F1 H' Fi ∧ c.g.rep zi H' ∧ H' D = some (.lst acc) ∧ Fi D = none ∧ RepFs Fi accD acc ∧ acc.length ≤ i + 1 ∧
        OkP c' H0 F0 (Eff.run (lcGo (wipeS ρ vs) tg ft fe (ds.drop (i + 1))) zi) (fun r z' => ∀ H' F' acc', Grow c.g H1 F1 H' F' → c.g.rep z' H' → H' D = some (.lst acc') → F' D = none → RepFs F' (accD ++ r) acc' → Q (.ref D) H')), fun H' hn => hn, fun x H2 y => ?_⟩
      obtain ⟨d, F2, ed, G2, rd⟩ := w.yld i Fi Hi x H2 Gi Gi.fh hlt y
      have S2 := (Si.grow G2.of0).wipe vs
      have rz2 := G2.rep0 Si.go rzi
      have ec : ds.drop i = d :: ds.drop (i + 1) := by
        rw [List.drop_eq_getElem_cons hlt]
        rw [List.getElem?_eq_getElem hlt] at ed
        cases ed; rfl
      rw [ec] at h
      unfold lcGo at h
      cases eg : tg d (wipeS ρ vs) with
      | none => simp only [eg] at h; exact h.badF.elim
      | some ρ2 =>
        simp only [eg] at h
        refine kg _ _ _ ρ2 F2 _ H2 d x _ S2 rd eg fun σ2 S2' tch => ⟨(tch vs hu).trans (wipe_idem vs), ?_⟩
        refine kt _ _ _ _ _ _ _ _ S2' rz2 (h.bind.imp fun b z3 h H3 F3 G3 rz3 => ?_)
        have S3 := S2'.grow G3
        have eD2 : H2 D = some (.lst acc) := G2.hh _ _ id eD
        have nF2 : F2 D = none := (G2.nw D (some_ne eD)).trans nFi
        have eD3 : H3 D = some (.lst acc) := G3.hh _ _ noD eD2
        have nF3 : F3 D = none := (G3.nw D (some_ne eD2)).trans nF2
        have G13 : Grow c.g H1 F1 H3 F3 := Gi.trans (G2.of0.trans G3)
        have ra3 : RepFs F3 accD acc := RepFs.mono (G2.ff.trans G3.ff) _ _ ra
        cases b with
        | false =>
          refine iteF ⟨_, by omega, rfl, by omega, F3, z3, accD, acc, G13, rz3, eD3, nF3, ra3, by omega, h⟩
        | true =>
          refine iteT ?_
          refine ke _ _ _ _ _ _ _ _ S3 rz3 (h.bind.imp fun y z4 h v H4 F4 G4 rz4 ry => ?_)
          have eD4 : H4 D = some (.lst acc) := G4.hh _ _ noD eD3
          have nF4 : F4 D = none := (G4.nw D (some_ne eD3)).trans nF3
          refine ⟨acc, eD4, by rw [← lim_eq]; omega, _, by omega, rfl, by omega, F4, z4, accD ++ [y], acc ++ [v], (G13.trans G4).poke hD nF4, rep_poke S1.go hD rz4, upd_same, nF4, (RepFs.mono G4.ff _ _ ra3).append ⟨v, [], rfl, ry, rfl⟩, by rw [List.length_append]; simp; omega, ?_⟩
          refine h.bind.imp fun r z5 h H' F' acc' G' rz' e' nf' rr => ?_
          exact (OkP.pure (c := c') h) H' F' acc' G' rz' e' nf' (by rw [List.append_assoc] at rr; exact rr)
    · have e : i = ds.length := by omega
      subst e
      rw [List.drop_length] at h
      unfold lcGo at h
      refine .inl ⟨w.stop _ Fi Hi Gi (Nat.le_refl _), ?_⟩
      exact (OkP.pure (c := c') h) Hi Fi acc Gi rzi eD nFi (by rw [List.append_nil]; exact ra)
end
end Vf

namespace Vf
open PySem L2
section
variable {ι Z : Type} {m : Type → Type} [Eff m Z] {c : Ct ι Z} {g : Cg Z}
/-! ### the meaning parts alone -/
def SemE (c : Ct ι Z) (t : TE) (f : Sto → m D) : Prop := ∀ (H0 F0 : Hp) (ρ : Sto) (F : Hp) (σ : L2.St) (H : Hp) (z : Z) (Q : VK), Sta c.g H0 F0 ρ F σ H → c.g.rep z H →
  OkP c H0 F0 (Eff.run (f ρ) z) (fun d z' => ∀ v H' F', Grow c.g H F H' F' → c.g.rep z' H' → RepF F' d v → Q v H') → t σ H Q
def SemO (c : Ct ι Z) (t : TE) (f : Sto → m D) : Prop := ∀ (H0 F0 : Hp) (ρ : Sto) (F : Hp) (σ : L2.St) (H : Hp) (z : Z) (Q : VK), Sta c.g H0 F0 ρ F σ H → c.g.rep z H →
  OkP c H0 F0 (Eff.run (f ρ) z) (fun d z' => ∀ a H' F', Grow c.g H F H' F' → c.g.rep z' H' → H a = none → F' a = none → OwnAt F' H' d a → Q (.ref a) H') → t σ H Q
theorem SemO.toE {t : TE} {f : Sto → m D} (k : SemO c t f) : SemE c t f := by
  intro H0 F0 ρ F σ H z Q S rz h
  refine k H0 F0 ρ F σ H z Q S rz (h.imp fun d z' h a H' F' G rz' n nf r => ?_)
  obtain ⟨o, e, r'⟩ := Vf.freeze G.fh nf r
  exact h _ H' _ (G.freeze n nf e) rz' r'
/-- a comprehension -/
theorem sem_lc {wi : TI} {gt : TG} {tt : TT} {te : TE} {vs us : List Nat} {scope : Scope} {it : Sto → m (List D)} {tg : D → Sto → Option Sto} {ft : Sto → m Bool} {fe : Sto → m D} (hu : ∀ i ∈ us, i ∈ vs)
    (ki : ∀ (H0 F0 : Hp) (ρ : Sto) (F : Hp) (σ : L2.St) (H : Hp) (z : Z) (R : It → Hp → Prop), Sta c.g H0 F0 ρ F σ H → c.g.rep z H →
      OkP c H0 F0 (Eff.run (it ρ) z) (fun ds z' => ∀ J H' F', Grow c.g H F H' F' → c.g.rep z' H' → Walks J c.K ds (Lent c.g H' F') → R J H') → wi σ H R)
    (kg : ∀ (H0 F0 : Hp) (ρ ρ' : Sto) (F : Hp) (σ : L2.St) (H : Hp) (d : D) (v : V) (Q : L2.St → Hp → Prop), Sta c.g H0 F0 ρ F σ H → RepF F d v →
      tg d ρ = some ρ' → (∀ σ', Sta c.g H0 F0 ρ' F σ' H → Touch us σ σ' → Q σ' H) → gt v σ H Q)
    (kt : ∀ (H0 F0 : Hp) (ρ : Sto) (F : Hp) (σ : L2.St) (H : Hp) (z : Z) (Q : Bool → Hp → Prop), Sta c.g H0 F0 ρ F σ H → c.g.rep z H →
      OkP (c.blk scope) H0 F0 (Eff.run (ft ρ) z) (fun b z' => ∀ H' F', Grow c.g H F H' F' → c.g.rep z' H' → Q b H') → tt σ H Q)
    (ke : SemE (c.blk scope) te fe) : SemO c (tLc wi gt tt te vs) (eLc it tg vs ft fe) := by
  intro H0 F0 ρ F σ H z Q S rz h
  refine lc_read (c' := c.blk scope) rfl rfl rfl hu ki kg kt ke S rz (OkP.imp (OkP.bind h) fun ds z1 h => ?_)
  by_cases hl : ds.length ≤ lim
  · rw [if_pos hl] at h
    refine ⟨hl, ?_⟩
    rw [Eff.run_bind] at h
    rw [Eff.run_nox] at h
    cases q : Eff.run (lcGo (wipeS ρ vs) tg ft fe ds) z1 with
    | ok xs z2 => rw [q] at h; exact (OkP.pure (c := c) h)
    | ex e z2 => rw [q] at h; exact h.elim
    | bad => rw [q] at h; exact h.elim
  · rw [if_neg hl] at h
    exact h.badF.elim
theorem eo_lc {tg iter elt : Expr} {ifs : List Expr} {scope : Scope} {own : List (Str × Nat)} {pos : Pos} {it : Sto → m (List D)} {us : List Nat} {fg : D → Sto → Option Sto} {ft : Sto → m Bool} {fe : Sto → m D}
    (hi : EvIB c tg iter it) (ok : ∀ i, BlkOk (c.X i).N (c.X i).env.scope scope own) (hg : EvG (c.blk scope) tg us fg) (ht : EvTs (c.blk scope) ifs ft) (he : EvE (c.blk scope) elt fe) (hu : ∀ i ∈ us, i ∈ own.map (·.2))
    (hs : ∀ i x, foldedSetIterable iter (c.X i).env x = pure x) : EvO c (.ListComp elt [⟨tg, iter, ifs, 0⟩] scope pos) (eLc it fg (own.map (·.2)) ft fe) := by
  obtain ⟨wi, pi, ki⟩ := hi
  obtain ⟨tg', pg, kg⟩ := hg
  obtain ⟨tt, pt, kt⟩ := ht
  obtain ⟨te, pe, ke⟩ := he
  exact ⟨_, fun i => pe_lc (c.calm i) (c.nd i) (pi i) (ok i) (fun s H C cl fp => pg (i, s, H, C, cl, fp)) (fun s H C cl fp => pt (i, s, H, C, cl, fp)) (fun s H C cl fp => pe (i, s, H, C, cl, fp)) (hs i), sem_lc (scope := scope) hu ki kg kt ke⟩

/-! ### statements -/
inductive Fl | nx (ρ : Sto) | rt (d : D) | bk (ρ : Sto) | ct (ρ : Sto)
def flP (c : Ct ι Z) (H0 F0 F : Hp) (Dn : Ends) (fl : Fl) (z' : Z) : Prop := match fl with
  | .nx ρ' => ∀ σ' H' F', Sta c.g H0 F0 ρ' F' σ' H' → c.g.rep z' H' → Sub F F' → Dn.nx σ' H'
  | .bk ρ' => ∀ σ' H' F', Sta c.g H0 F0 ρ' F' σ' H' → c.g.rep z' H' → Sub F F' → Dn.bk σ' H'
  | .ct ρ' => ∀ σ' H' F', Sta c.g H0 F0 ρ' F' σ' H' → c.g.rep z' H' → Sub F F' → Dn.ct σ' H'
  | .rt d => ∀ v H' F', Grow c.g H0 F0 H' F' → c.g.rep z' H' → RepF F' d v → Dn.rt v H'
def SemS (c : Ct ι Z) (t : TS) (h : Sto → m Fl) : Prop := ∀ (H0 F0 : Hp) (ρ : Sto) (F : Hp) (σ : L2.St) (H : Hp) (z : Z) (Dn : Ends), Sta c.g H0 F0 ρ F σ H → c.g.rep z H →
  OkP c H0 F0 (Eff.run (h ρ) z) (flP c H0 F0 F Dn) → t Dn σ H
def EvS (c : Ct ι Z) (st : Stmt) (h : Sto → m Fl) : Prop := ∃ t : TS, (∀ i, PS (c.X i) st t) ∧ SemS c t h
def EvSs (c : Ct ι Z) (sts : List Stmt) (h : Sto → m Fl) : Prop := ∃ t : TS, (∀ i, PSs (c.X i) sts t) ∧ SemS c t h
theorem flP.sub {H0 F0 F F1 : Hp} {Dn : Ends} {fl : Fl} {z : Z} (s : Sub F F1) (h : flP c H0 F0 F Dn fl z) : flP c H0 F0 F1 Dn fl z := by
  cases fl with
  | nx ρ => exact fun σ' H' F' S r f => h σ' H' F' S r (s.trans f)
  | bk ρ => exact fun σ' H' F' S r f => h σ' H' F' S r (s.trans f)
  | ct ρ => exact fun σ' H' F' S r f => h σ' H' F' S r (s.trans f)
  | rt d => exact h
def sNil : Sto → m Fl := fun ρ => pure (.nx ρ)
def sSeq (a b : Sto → m Fl) : Sto → m Fl := fun ρ => do
  let r ← a ρ
  match r with
  | .nx ρ' => b ρ'
  | r => pure r
theorem evss_nil : EvSs (m := m) c [] sNil := ⟨_, fun _ => pss_nil, fun H0 F0 ρ F σ H z Dn S rz h => (OkP.pure (c := c) h) σ H F S rz (Same.refl _)⟩
theorem evss_one {st : Stmt} {h : Sto → m Fl} (hs : EvS c st h) : EvSs c [st] h := let ⟨t, p, k⟩ := hs; ⟨t, fun i => pss_one (p i), k⟩
theorem evss_cons {st : Stmt} {rest : List Stmt} {h1 h2 : Sto → m Fl} (a : EvS c st h1) (b : EvSs c rest h2) : EvSs c (st :: rest) (sSeq h1 h2) := by
  obtain ⟨t1, p1, k1⟩ := a
  obtain ⟨t2, p2, k2⟩ := b
  refine ⟨_, fun i => pss_cons (p1 i) (p2 i), fun H0 F0 ρ F σ H z Dn S rz h => ?_⟩
  refine k1 H0 F0 ρ F σ H z { Dn with nx := t2 Dn } S rz (h.bind.imp fun fl z1 h => ?_)
  cases fl with
  | nx ρ' => exact fun σ' H' F' S' r' f => k2 H0 F0 ρ' F' σ' H' z1 Dn S' r' (h.imp fun fl z h => h.sub f)
  | rt d => exact (show flP c H0 F0 F Dn (.rt d) z1 from OkP.pure (c := c) (H0 := H0) (F0 := F0) (a := Fl.rt d) h)
  | bk d => exact (show flP c H0 F0 F Dn (.bk d) z1 from OkP.pure (c := c) (H0 := H0) (F0 := F0) (a := Fl.bk d) h)
  | ct d => exact (show flP c H0 F0 F Dn (.ct d) z1 from OkP.pure (c := c) (H0 := H0) (F0 := F0) (a := Fl.ct d) h)
def sPass : Sto → m Fl := fun ρ => pure (.nx ρ)
theorem evs_pass {pos : Pos} : EvS (m := m) c (.Pass pos) sPass := ⟨_, fun _ => ps_pass, fun H0 F0 ρ F σ H z Dn S rz h => (OkP.pure (c := c) h) σ H F S rz (Same.refl _)⟩
/-- a statement that is never come to -/
def sNever : Sto → m Fl := fun _ => bad
theorem evs_never {st : Stmt} : EvS (m := m) c st sNever := ⟨_, fun _ => ps_never, fun H0 F0 ρ F σ H z Dn S rz h => h.badF.elim⟩
/-- target = e, frozen -/
def sAsg (e : Sto → m D) (tg : D → Sto → Option Sto) : Sto → m Fl := fun ρ => do
  let d ← e ρ
  match tg d ρ with
  | some ρ' => pure (.nx ρ')
  | none => bad
theorem sem_asg {te : TE} {gt : TG} {e : Sto → m D} {tg : D → Sto → Option Sto} {us : List Nat} (ke : SemE c te e) (kg : ∀ (H0 F0 : Hp) (ρ ρ' : Sto) (F : Hp) (σ : L2.St) (H : Hp) (d : D) (v : V) (Q : L2.St → Hp → Prop), Sta c.g H0 F0 ρ F σ H → RepF F d v →
      tg d ρ = some ρ' → (∀ σ', Sta c.g H0 F0 ρ' F σ' H → Touch us σ σ' → Q σ' H) → gt v σ H Q) : SemS c (tAsg te gt) (sAsg e tg) := by
  intro H0 F0 ρ F σ H z Dn S rz h
  refine ke _ _ _ _ _ _ _ _ S rz (h.bind.imp fun d z1 h v H1 F1 G1 rz1 r => ?_)
  have S1 := S.grow G1
  cases q : tg d ρ with
  | none => simp only [q] at h; exact h.badF.elim
  | some ρ' =>
    simp only [q] at h
    exact kg H0 F0 ρ ρ' F1 σ H1 d v _ S1 r q fun σ' S' _ => (OkP.pure (c := c) h) σ' H1 F1 S' rz1 G1.ff
theorem evs_asg {tg e : Expr} {fe : Sto → m D} {us : List Nat} {fg : D → Sto → Option Sto} {pos : Pos} (he : EvE c e fe) (hg : EvG c tg us fg) (hs : ∀ i, swapsWithSole [tg] e pos.line (c.X i).env = pure false) (hw : ∀ i, swappedStores [tg] e (c.X i).env = pure none)
    (h1 : ∀ i, (assignEach [tg] (c.X i).env).map (·.2) = [assign tg (c.X i).env]) : EvS c (.Assign [tg] e pos) (sAsg fe fg) := by
  obtain ⟨te, pe, ke⟩ := he
  obtain ⟨tg', pg, kg⟩ := hg
  exact ⟨_, fun i => ps_asg (pe i) (pg i) (hs i) (hw i) (h1 i), sem_asg ke kg⟩
theorem evs_set (i : Nat) {x : Str} {e : Expr} {fe : Sto → m D} {pos pos' : Pos} (hi : ∀ j, (c.X j).N[i]? = some x) (hx : ∀ j, Loc (c.X j).env.scope x) (hf : ∀ j, (c.X j).fn x = true ∨ (c.X j).env.scope.names.lookup x = some .local) (he : EvE c e fe)
    (hs : ∀ j, swapsWith e (some (.Name x pos')) pos.line (c.X j).env = pure false) : EvS c (.Assign [.Name x pos'] e pos) (sAsg fe (gN i)) := by
  obtain ⟨te, pe, ke⟩ := he
  exact ⟨_, fun j => ps_set (c.nd j) (hi j) (hx j) (pe j) (hs j) (hf j), sem_asg (us := [i]) ke fun H0 F0 ρ ρ' F σ H d v Q S r e k => by cases e; exact k _ (S.set i r) fun us h => wipe_set (h i List.mem_cons_self)⟩
/-- name = e, owned -/
def sOwn (i : Nat) (e : Sto → m D) : Sto → m Fl := fun ρ => do
  let d ← e ρ
  pure (.nx (ρ.set i (.ow d)))
theorem Sta.setO {H0 F0 F H H1 F1 : Hp} {ρ : Sto} {σ : L2.St} {d : D} {a : Addr} (S : Sta g H0 F0 ρ F σ H) (G : Grow g H F H1 F1) (n : H a = none) (nf : F1 a = none) (r : OwnAt F1 H1 d a) (i : Nat) :
    Sta g H0 F0 (ρ.set i (.ow d)) F1 (σ.set i (some (.ref a))) H1 := by
  have S1 := S.grow G
  have no : ¬ g.own a := fun o => S.go a o n
  have n0 : H0 a = none := by
    cases q : H0 a with
    | none => rfl
    | some o => exact absurd n (S.gr.os _ (some_ne q))
  have apart : ∀ (j : Nat) (d1 : D), ρ[j]? = some (.ow d1) → σ[j]? ≠ some (some (.ref a)) := fun j d1 e1 e2 => by
    obtain ⟨o, e3, b, eb, _, _, _, rb⟩ := S.sl j _ e1
    rw [e3] at e2
    subst eb
    have : b = a := by
      have := Option.some.inj e2
      have := Option.some.inj this
      exact V.ref.inj this
    subst this
    exact rb.some n
  refine ⟨S1.gr, S1.go, S1.gf, by rw [List.length_set, List.length_set]; exact S1.len, fun j s e => ?_, fun j k d1 e1 b h1 h2 h3 h4 => ?_⟩
  · by_cases q : i = j
    · subst q
      by_cases hl : i < ρ.length
      · rw [List.getElem?_set_self hl] at e
        cases e
        exact ⟨_, List.getElem?_set_self (by rw [S.len]; exact hl), a, rfl, n0, nf, no, r⟩
      · rw [List.getElem?_eq_none (by rw [List.length_set]; omega)] at e; cases e
    · rw [List.getElem?_set_ne q] at e ⊢
      exact S1.sl j s e
  · by_cases q1 : i = j
    · by_cases q2 : i = k
      · rw [← q1, ← q2]
      · exfalso
        subst q1
        rw [List.getElem?_set_ne q2] at h2 h4
        by_cases hl : i < σ.length
        · rw [List.getElem?_set_self hl] at h3
          have : a = b := V.ref.inj (Option.some.inj (Option.some.inj h3))
          subst this
          exact apart k e1 h2 h4
        · rw [List.getElem?_eq_none (by rw [List.length_set]; omega)] at h3; cases h3
    · rw [List.getElem?_set_ne q1] at h1 h3
      by_cases q2 : i = k
      · exfalso
        subst q2
        by_cases hl : i < σ.length
        · rw [List.getElem?_set_self hl] at h4
          have : a = b := V.ref.inj (Option.some.inj (Option.some.inj h4))
          subst this
          exact apart j d1 h1 h3
        · rw [List.getElem?_eq_none (by rw [List.length_set]; omega)] at h4; cases h4
      · rw [List.getElem?_set_ne q2] at h2 h4
        exact S1.inj j k d1 e1 b h1 h2 h3 h4
theorem sem_own {te : TE} {e : Sto → m D} (i : Nat) (ke : SemO c te e) : SemS c (tAsg te (gName i)) (sOwn i e) := by
  intro H0 F0 ρ F σ H z Dn S rz h
  refine ke _ _ _ _ _ _ _ _ S rz (h.bind.imp fun d z1 h a H1 F1 G1 rz1 n nf r => ?_)
  exact (OkP.pure (c := c) h) _ H1 F1 (S.setO G1 n nf r i) rz1 G1.ff
theorem evs_own (i : Nat) {x : Str} {e : Expr} {fe : Sto → m D} {pos pos' : Pos} (hi : ∀ j, (c.X j).N[i]? = some x) (hx : ∀ j, Loc (c.X j).env.scope x) (hf : ∀ j, (c.X j).fn x = true ∨ (c.X j).env.scope.names.lookup x = some .local) (he : EvO c e fe)
    (hs : ∀ j, swapsWith e (some (.Name x pos')) pos.line (c.X j).env = pure false) : EvS c (.Assign [.Name x pos'] e pos) (sOwn i fe) := by
  obtain ⟨te, pe, ke⟩ := he
  exact ⟨_, fun j => ps_set (c.nd j) (hi j) (hx j) (pe j) (hs j) (hf j), sem_own i ke⟩
/-- name = [..] on one line -/
theorem ps_lc_all {i : Nat} {y : Str} {py : Pos} {tg iter elt : Expr} {ifs : List Expr} {scope : Scope} {own : List (Str × Nat)} {pos spos : Pos} {it : Sto → m (List D)} {us : List Nat} {fg : D → Sto → Option Sto} {ft : Sto → m Bool} {fe : Sto → m D}
    (hy : ∀ j, (c.X j).N[i]? = some y) (hyl : ∀ j, (c.X j).env.scope.names.lookup y = some .local) (hsw : ∀ j, swapsWith (.ListComp elt [⟨tg, iter, ifs, 0⟩] scope pos) (some (.Name y py)) spos.line (c.X j).env = pure true)
    (hi : EvIB c tg iter it) (ok : ∀ i, BlkOk (c.X i).N (c.X i).env.scope scope own) (hg : EvG (c.blk scope) tg us fg) (ht : EvTs (c.blk scope) ifs ft) (he : EvE (c.blk scope) elt fe) (hu : ∀ i ∈ us, i ∈ own.map (·.2))
    (hs : ∀ i x, foldedSetIterable iter (c.X i).env x = pure x) : ∃ te, (∀ j, PS (c.X j) (.Assign [.Name y py] (.ListComp elt [⟨tg, iter, ifs, 0⟩] scope pos) spos) (tAsg te (gName i))) ∧ SemO c te (eLc it fg (own.map (·.2)) ft fe) := by
  obtain ⟨wi, pi, ki⟩ := hi
  obtain ⟨tg', pg, kg⟩ := hg
  obtain ⟨tt, pt, kt⟩ := ht
  obtain ⟨te, pe, ke⟩ := he
  exact ⟨_, fun i => ps_setLc (c.calm i) (c.nd i) (hy i) (hyl i) (hsw i) (pi i) (ok i) (fun s H C cl fp => pg (i, s, H, C, cl, fp)) (fun s H C cl fp => pt (i, s, H, C, cl, fp)) (fun s H C cl fp => pe (i, s, H, C, cl, fp)) (hs i), sem_lc (scope := scope) hu ki kg kt ke⟩
theorem evs_setOf {i : Nat} {st : Stmt} {f : Sto → m D} (h : ∃ te, (∀ j, PS (c.X j) st (tAsg te (gName i))) ∧ SemO c te f) : EvS c st (sAsg f (gN i)) := by
  obtain ⟨te, p, k⟩ := h
  exact ⟨_, p, sem_asg (us := [i]) k.toE fun H0 F0 ρ ρ' F σ H d v Q S r e k => by cases e; exact k _ (S.set i r) fun us h => wipe_set (h i List.mem_cons_self)⟩
theorem evs_ownOf {i : Nat} {st : Stmt} {f : Sto → m D} (h : ∃ te, (∀ j, PS (c.X j) st (tAsg te (gName i))) ∧ SemO c te f) : EvS c st (sOwn i f) := by
  obtain ⟨te, p, k⟩ := h
  exact ⟨_, p, sem_own i k⟩
end
end Vf

namespace Vf
open PySem L2
section
variable {ι Z : Type} {m : Type → Type} [Eff m Z] {c : Ct ι Z} {g : Cg Z}
/-! ### if, return, freezing -/
def sIf (t : Sto → m Bool) (a b : Sto → m Fl) : Sto → m Fl := fun ρ => do
  let x ← t ρ
  if x then a ρ else b ρ
theorem evs_if {t : Expr} {a b : List Stmt} {ft : Sto → m Bool} {fa fb : Sto → m Fl} {pos : Pos} (ht : EvT c t ft) (ha : EvSs c a fa) (hb : EvSs c b fb) : EvS c (.If t a b pos) (sIf ft fa fb) := by
  obtain ⟨tt, pt, kt⟩ := ht
  obtain ⟨ta, pa, ka⟩ := ha
  obtain ⟨tb, pb, kb⟩ := hb
  refine ⟨_, fun i => ps_if (pt i) (pa i) (pb i), fun H0 F0 ρ F σ H z Dn S rz h => ?_⟩
  refine kt _ _ _ _ _ _ _ _ S rz (h.bind.imp fun x z1 h H1 F1 G1 rz1 => ?_)
  cases x with
  | true => exact iteT (ka H0 F0 ρ F1 σ H1 z1 Dn (S.grow G1) rz1 (h.imp fun fl z h => h.sub G1.ff))
  | false => exact iteF (kb H0 F0 ρ F1 σ H1 z1 Dn (S.grow G1) rz1 (h.imp fun fl z h => h.sub G1.ff))
def sRet (e : Sto → m D) : Sto → m Fl := fun ρ => do
  let d ← e ρ
  pure (.rt d)
theorem evs_ret {e : Expr} {fe : Sto → m D} {pos : Pos} (he : EvE c e fe) : EvS c (.Return (some e) pos) (sRet fe) := by
  obtain ⟨te, pe, ke⟩ := he
  refine ⟨_, fun i => ps_ret (pe i), fun H0 F0 ρ F σ H z Dn S rz h => ?_⟩
  refine ke _ _ _ _ _ _ _ _ S rz (h.bind.imp fun d z1 h v H1 F1 G1 rz1 r => ?_)
  exact (OkP.pure (c := c) h) v H1 F1 (S.gr.trans G1) rz1 r
/-- a slot's own thing is frozen -/
def frz1 (i : Nat) (ρ : Sto) : Sto := match ρ[i]? with
  | some (.ow d) => ρ.set i (.sh d)
  | _ => ρ
theorem Sta.frz {H0 F0 F H : Hp} {ρ : Sto} {σ : L2.St} (S : Sta g H0 F0 ρ F σ H) (i : Nat) : ∃ F', Sta g H0 F0 (frz1 i ρ) F' σ H ∧ Sub F F' := by
  unfold frz1
  cases q : ρ[i]? with
  | none => exact ⟨F, S, Same.refl _⟩
  | some s =>
    cases s with
    | no => exact ⟨F, S, Same.refl _⟩
    | sh d => exact ⟨F, S, Same.refl _⟩
    | ow d =>
      obtain ⟨o, eo, a, ea, n0, nf, no, r⟩ := S.sl i _ q
      subst ea
      obtain ⟨ob, eh, rf⟩ := Vf.freeze S.fh nf r
      have sub : Sub F (upd F a ob) := fun b u e => by rw [upd_ne (ne_of_none e nf)]; exact e
      have hil : i < ρ.length := (List.getElem?_eq_some_iff.mp q).1
      refine ⟨upd F a ob, ⟨S.gr.freeze n0 nf eh, S.go, fun b hb => ?_, by rw [List.length_set]; exact S.len, fun j s e => ?_, fun j k d1 e1 b h1 h2 h3 h4 => ?_⟩, sub⟩
      · have : b ≠ a := fun e => no (e ▸ hb)
        rw [upd_ne this]; exact S.gf b hb
      · by_cases z : i = j
        · subst z
          rw [List.getElem?_set_self hil] at e
          cases e
          exact ⟨_, eo, _, rfl, rf⟩
        · rw [List.getElem?_set_ne z] at e
          obtain ⟨o', eo', k⟩ := S.sl j s e
          refine ⟨o', eo', ?_⟩
          cases s with
          | no => trivial
          | sh d1 => obtain ⟨v, ev, rv⟩ := k; exact ⟨v, ev, RepF.mono sub _ _ rv⟩
          | ow d1 =>
            obtain ⟨b, eb, m0, mf, mo, rb⟩ := k
            have hne : b ≠ a := fun e' => z (S.inj i j d d1 a q e eo (by rw [eo', eb, e']))
            refine ⟨b, eb, m0, by rw [upd_ne hne]; exact mf, mo, ?_⟩
            cases d1 with
            | lst ds => obtain ⟨vs, e1, r1⟩ := rb; exact ⟨vs, e1, RepFs.mono sub _ _ r1⟩
            | dk kvs => obtain ⟨vs, e1, r1⟩ := rb; exact ⟨vs, e1, RepK.mono sub _ _ r1⟩
            | dt kvs => obtain ⟨vs, e1, r1⟩ := rb; exact ⟨vs, e1, RepT.mono sub _ _ r1⟩
            | _ => exact rb.elim
      · by_cases z1 : i = j
        · subst z1; rw [List.getElem?_set_self hil] at h1; cases h1
        · by_cases z2 : i = k
          · subst z2; rw [List.getElem?_set_self hil] at h2; cases h2
          · rw [List.getElem?_set_ne z1] at h1
            rw [List.getElem?_set_ne z2] at h2
            exact S.inj j k d1 e1 b h1 h2 h3 h4
/-- freeze a slot ahead of a statement -/
def sFrz (i : Nat) (h : Sto → m Fl) : Sto → m Fl := fun ρ => h (frz1 i ρ)
theorem evs_frz (i : Nat) {st : Stmt} {h : Sto → m Fl} (hs : EvS c st h) : EvS c st (sFrz i h) := by
  obtain ⟨t, p, k⟩ := hs
  refine ⟨t, p, fun H0 F0 ρ F σ H z Dn S rz hh => ?_⟩
  obtain ⟨F', S', sub⟩ := S.frz i
  exact k H0 F0 _ F' σ H z Dn S' rz (hh.imp fun fl z q => q.sub sub)

/-! ### loops -/
def forGo (tg : D → Sto → Option Sto) (b : Sto → m Fl) : List D → Sto → m Fl
  | [], ρ => pure (.nx ρ)
  | d :: ds, ρ => match tg d ρ with
    | some ρ1 => do
      let r ← b ρ1
      match r with
      | .nx ρ' => forGo tg b ds ρ'
      | .ct ρ' => forGo tg b ds ρ'
      | .bk ρ' => pure (.nx ρ')
      | .rt d => pure (.rt d)
    | none => bad
def sFor (it : Sto → m (List D)) (tg : D → Sto → Option Sto) (b : Sto → m Fl) : Sto → m Fl := fun ρ => do
  let ds ← it ρ
  forGo tg b ds ρ
theorem evs_for {tg iter : Expr} {body : List Stmt} {it : Sto → m (List D)} {us : List Nat} {fg : D → Sto → Option Sto} {fb : Sto → m Fl} {pos : Pos} (hp : ∀ i, PassesOwn (model (c.X i).prog (c.X i).w) (c.X i).A (c.X i).env (c.X i).xe)
    (hi : EvI c tg iter it) (hg : EvG c tg us fg) (hb : EvSs c body fb) (hs : ∀ i x, foldedSetIterable iter (c.X i).env x = pure x) : EvS c (.For tg iter body [] pos) (sFor it fg fb) := by
  obtain ⟨wi, pi, ki⟩ := hi
  obtain ⟨tg', pg, kg⟩ := hg
  obtain ⟨tb, pb, kb⟩ := hb
  refine ⟨_, fun i => ps_for (hp i) (c.calm i) (pi i) (pg i) (pb i) (hs i), fun H0 F0 ρ F σ H z Dn S rz h => ?_⟩
  refine ki _ _ _ _ _ _ _ _ S rz (h.bind.imp fun ds z1 h J H1 F1 G1 rz1 w => ?_)
  have S1 := S.grow G1
  refine ⟨fun i k σi Hi => k = ds.length - i ∧ i ≤ ds.length ∧ ∃ ρi Fi zi, Sta c.g H0 F0 ρi Fi σi Hi ∧ c.g.rep zi Hi ∧ Sub F1 Fi ∧ OkP c H0 F0 (Eff.run (forGo fg fb (ds.drop i) ρi) zi) (flP c H0 F0 Fi Dn),
    ⟨_, rfl, Nat.zero_le _, ρ, F1, z1, S1, rz1, Same.refl _, by rw [List.drop_zero]; exact h.imp fun fl z q => q.sub G1.ff⟩, ?_⟩
  rintro i k σi Hi ⟨rfl, hi, ρi, Fi, zi, Si, rzi, sub, h⟩
  by_cases hlt : i < ds.length
  · refine .inr ⟨w.go i Fi Hi ⟨sub, Si.fh⟩ hlt, fun σ' H' => i + 1 ≤ ds.length ∧ ∃ ρi Fi zi, Sta c.g H0 F0 ρi Fi σ' H' ∧ c.g.rep zi H' ∧ Sub F1 Fi ∧ OkP c H0 F0 (Eff.run (forGo fg fb (ds.drop (i + 1)) ρi) zi) (flP c H0 F0 Fi Dn),
      fun σ' H' hn => ⟨_, by omega, rfl, hn⟩, fun x H2 y => ?_⟩
    obtain ⟨d, F2, ed, G2, rd⟩ := w.yld i Fi Hi x H2 ⟨sub, Si.fh⟩ Si.fh hlt y
    have S2 := Si.grow G2.of0
    have rz2 := G2.rep0 Si.go rzi
    have ec : ds.drop i = d :: ds.drop (i + 1) := by
      rw [List.drop_eq_getElem_cons hlt]
      rw [List.getElem?_eq_getElem hlt] at ed
      cases ed; rfl
    rw [ec] at h
    unfold forGo at h
    cases eg : fg d ρi with
    | none => simp only [eg] at h; exact h.badF.elim
    | some ρ2 =>
      simp only [eg] at h
      refine kg _ _ _ ρ2 F2 _ H2 d x _ S2 rd eg fun σ2 S2' _ => ?_
      refine kb H0 F0 ρ2 F2 σ2 H2 zi _ S2' rz2 (h.bind.imp fun fl z3 h => ?_)
      cases fl with
      | nx ρ' => exact fun σ' H' F' S' r' f => ⟨by omega, ρ', F', z3, S', r', sub.trans (G2.ff.trans f), h.imp fun fl z q => q.sub (G2.ff.trans f)⟩
      | ct ρ' => exact fun σ' H' F' S' r' f => ⟨by omega, ρ', F', z3, S', r', sub.trans (G2.ff.trans f), h.imp fun fl z q => q.sub (G2.ff.trans f)⟩
      | bk ρ' => exact fun σ' H' F' S' r' f => (OkP.pure (c := c) h) σ' H' F' S' r' (G2.ff.trans f)
      | rt d => exact fun v H' F' G r' rv => (OkP.pure (c := c) h) v H' F' G r' rv
  · have e : i = ds.length := by omega
    subst e
    rw [List.drop_length] at h
    unfold forGo at h
    exact .inl ⟨w.stop _ Fi Hi ⟨sub, Si.fh⟩ (Nat.le_refl _), (OkP.pure (c := c) h) σi Hi Fi Si rzi (Same.refl _)⟩
def whileGo (t : Sto → m Bool) (b : Sto → m Fl) : Nat → Sto → m Fl
  | 0, _ => bad
  | n + 1, ρ => do
    let x ← t ρ
    if x then do
      let r ← b ρ
      match r with
      | .nx ρ' => whileGo t b n ρ'
      | .ct ρ' => whileGo t b n ρ'
      | .bk ρ' => pure (.nx ρ')
      | .rt d => pure (.rt d)
    else pure (.nx ρ)
def sWhile (t : Sto → m Bool) (b : Sto → m Fl) : Sto → m Fl := whileGo t b 1000000000
theorem evs_while {t : Expr} {body : List Stmt} {ft : Sto → m Bool} {fb : Sto → m Fl} {pos : Pos} (hp : ∀ i, PassesOwn (model (c.X i).prog (c.X i).w) (c.X i).A (c.X i).env (c.X i).xe) (ht : EvT c t ft) (hb : EvSs c body fb) : EvS c (.While t body [] pos) (sWhile ft fb) := by
  obtain ⟨tt, pt, kt⟩ := ht
  obtain ⟨tb, pb, kb⟩ := hb
  refine ⟨_, fun i => ps_while (hp i) (pt i) (pb i), fun H0 F0 ρ F σ H z Dn S rz h => ?_⟩
  refine ⟨fun n σi Hi => ∃ ρi Fi zi, Sta c.g H0 F0 ρi Fi σi Hi ∧ c.g.rep zi Hi ∧ OkP c H0 F0 (Eff.run (whileGo ft fb n ρi) zi) (flP c H0 F0 F Dn) ∧ Sub F Fi, ⟨1000000000, ρ, F, z, S, rz, h, Same.refl _⟩, ?_⟩
  rintro n σi Hi ⟨ρi, Fi, zi, Si, rzi, h, sub⟩
  cases n with
  | zero => exact (OkP.badF h).elim
  | succ n =>
    unfold whileGo at h
    refine kt H0 F0 ρi Fi σi Hi zi _ Si rzi (h.bind.imp fun x z1 h H1 F1 G1 rz1 => ?_)
    have S1 := Si.grow G1
    cases x with
    | false => exact iteF ((OkP.pure (c := c) h) σi H1 F1 S1 rz1 (sub.trans G1.ff))
    | true =>
      refine iteT ⟨fun σ' H' => ∃ ρi Fi zi, Sta c.g H0 F0 ρi Fi σ' H' ∧ c.g.rep zi H' ∧ OkP c H0 F0 (Eff.run (whileGo ft fb n ρi) zi) (flP c H0 F0 F Dn) ∧ Sub F Fi, fun σ' H' hn => ⟨n, Nat.lt_succ_self n, hn⟩, ?_⟩
      refine kb H0 F0 ρi F1 σi H1 z1 _ S1 rz1 (h.bind.imp fun fl z3 h => ?_)
      cases fl with
      | nx ρ' => exact fun σ' H' F' S' r' f => ⟨ρ', F', z3, S', r', h, sub.trans (G1.ff.trans f)⟩
      | ct ρ' => exact fun σ' H' F' S' r' f => ⟨ρ', F', z3, S', r', h, sub.trans (G1.ff.trans f)⟩
      | bk ρ' => exact fun σ' H' F' S' r' f => (OkP.pure (c := c) h) σ' H' F' S' r' (sub.trans (G1.ff.trans f))
      | rt d => exact fun v H' F' G r' rv => (OkP.pure (c := c) h) v H' F' G r' rv

/-! ### stores into what a slot owns -/
theorem Sta.mutate {H0 F0 F H : Hp} {ρ : Sto} {σ : L2.St} {d d' : D} {i : Nat} {a : Addr} {o' : HO} (S : Sta g H0 F0 ρ F σ H) (e : ρ[i]? = some (.ow d)) (ea : σ[i]? = some (some (.ref a))) (r : OwnAt F (upd H a o') d' a) :
    Sta g H0 F0 (ρ.set i (.ow d')) F σ (upd H a o') := by
  obtain ⟨o, eo, b, eb, n0, nf, no, rb⟩ := S.sl i _ e
  have : b = a := by
    rw [eo, eb] at ea
    exact V.ref.inj (Option.some.inj (Option.some.inj ea))
  subst this
  subst eb
  have hil : i < ρ.length := (List.getElem?_eq_some_iff.mp e).1
  have oth : ∀ (j : Nat) (d1 : D), i ≠ j → ρ[j]? = some (.ow d1) → ∀ x, σ[j]? = some (some (.ref x)) → x ≠ b := fun j d1 ne e1 x ex z => ne (S.inj i j d d1 b e e1 ea (by rw [ex, z]))
  refine ⟨⟨fun x u nx ex => ?_, fun x ex => ?_, S.gr.ff, fun x u ex => ?_, S.gr.nw⟩, fun x hx => ?_, S.gf, by rw [List.length_set]; exact S.len, fun j s es => ?_, fun j k d1 e1 x h1 h2 h3 h4 => ?_⟩
  · rw [upd_ne (ne_of_none ex n0)]; exact S.gr.hh _ _ nx ex
  · by_cases z : x = b
    · rw [z, upd_same]; exact fun z => nomatch z
    · rw [upd_ne z]; exact S.gr.os _ ex
  · rw [upd_ne (ne_of_none ex nf)]; exact S.fh _ _ ex
  · by_cases z : x = b
    · rw [z, upd_same]; exact fun z => nomatch z
    · rw [upd_ne z]; exact S.go x hx
  · by_cases z : i = j
    · subst z
      rw [List.getElem?_set_self hil] at es
      cases es
      exact ⟨_, eo, b, rfl, n0, nf, no, r⟩
    · rw [List.getElem?_set_ne z] at es
      obtain ⟨o2, eo2, k⟩ := S.sl j s es
      refine ⟨o2, eo2, ?_⟩
      cases s with
      | no => trivial
      | sh d1 => exact k
      | ow d1 =>
        obtain ⟨x, ex, m0, mf, mo, rx⟩ := k
        have hne : x ≠ b := oth j d1 z es x (by rw [eo2, ex])
        refine ⟨x, ex, m0, mf, mo, ?_⟩
        cases d1 with
        | lst ds => obtain ⟨vs, q1, r1⟩ := rx; exact ⟨vs, by rw [upd_ne hne]; exact q1, r1⟩
        | dk kvs => obtain ⟨vs, q1, r1⟩ := rx; exact ⟨vs, by rw [upd_ne hne]; exact q1, r1⟩
        | dt kvs => obtain ⟨vs, q1, r1⟩ := rx; exact ⟨vs, by rw [upd_ne hne]; exact q1, r1⟩
        | _ => exact rx.elim
  · have own_of : ∀ (k : Nat) (e1 : D), (ρ.set i (.ow d'))[k]? = some (.ow e1) → ∃ e2, ρ[k]? = some (.ow e2) := fun k e1 h => by
      by_cases z : i = k
      · subst z; exact ⟨d, e⟩
      · rw [List.getElem?_set_ne z] at h; exact ⟨e1, h⟩
    obtain ⟨d2, h1'⟩ := own_of j d1 h1
    obtain ⟨e2, h2'⟩ := own_of k e1 h2
    exact S.inj j k d2 e2 x h1' h2' h3 h4
theorem rep_mut {H : Hp} {z : Z} {a : Addr} {o : HO} (no : ¬ g.own a) (r : g.rep z H) : g.rep z (upd H a o) := g.loc z H _ r fun x hx => upd_ne fun e => no (e ▸ hx)
/-- what a slot owns -/
theorem Sta.own {H0 F0 F H : Hp} {ρ : Sto} {σ : L2.St} {d : D} {i : Nat} (S : Sta g H0 F0 ρ F σ H) (e : ρ[i]? = some (.ow d)) : ∃ a, σ[i]? = some (some (.ref a)) ∧ ¬ g.own a ∧ F a = none ∧ OwnAt F H d a := by
  obtain ⟨o, eo, a, ea, n0, nf, no, r⟩ := S.sl i _ e
  exact ⟨a, by rw [eo, ea], no, nf, r⟩
/-- x.append(e) -/
def sApp (i : Nat) (e : Sto → m D) : Sto → m Fl := fun ρ => match ρ[i]? with
  | some (.ow (.lst xs)) => do
    let d ← e ρ
    if xs.length < lim then pure (.nx (ρ.set i (.ow (.lst (xs ++ [d]))))) else bad
  | _ => bad
theorem evs_app (i : Nat) {x : Str} {e : Expr} {fe : Sto → m D} {px apos cpos pos : Pos} (hN : ∀ j, (c.X j).N[i]? = some x) (hv : ∀ j, Vis (c.X j).env.scope x) (hd : (x == ("__debug__" : Str)) = false) (hcd : (x == ("__classdict__" : Str)) = false)
    (hp : ∀ j to t, PE (c.X j) (.Name x px) to → PA (c.X j) [e] t → PS (c.X j) (.Expr (.Call (.Attribute (.Name x px) "append" apos) [e] [] cpos) pos) (tDrop (tBM c.K "list" rAppend to t)))
    (hs1 : ∀ j, starEach [e] (c.X j).env = (false, eval e (c.X j).env) :: starEach [] (c.X j).env) (he : EvE c e fe) : EvS c (.Expr (.Call (.Attribute (.Name x px) "append" apos) [e] [] cpos) pos) (sApp i fe) := by
  obtain ⟨te, pe, ke⟩ := he
  refine ⟨_, fun j => hp j _ _ (pe_var (hN j) (hv j) hd hcd) (pa_cons (pe j) pa_nil (hs1 j)), fun H0 F0 ρ F σ H z Dn S rz h => ?_⟩
  unfold sApp at h
  split at h
  · rename_i xs eo
    obtain ⟨a, ea, no, nf, vs, q, rv⟩ := S.own eo
    refine ⟨.ref a, ea, .inl ⟨rfl, _, SqL.of q⟩, ?_⟩
    refine ke _ _ _ _ _ _ _ _ S rz (h.bind.imp fun d z1 h v H1 F1 G1 rz1 r => ?_)
    have S1 := S.grow G1
    by_cases hl : xs.length < lim
    · rw [if_pos hl] at h
      have q1 := G1.hh _ _ no q
      refine ⟨a, vs, v, rfl, rfl, q1, by rw [← rv.length, ← lim_eq]; exact hl, ?_⟩
      exact (OkP.pure (c := c) h) σ _ F1 (S1.mutate eo ea ⟨_, upd_same, (RepFs.mono G1.ff _ _ rv).append ⟨v, [], rfl, r, rfl⟩⟩) (rep_mut no rz1) G1.ff
    · rw [if_neg hl] at h; exact h.badF.elim
  · exact h.badF.elim
end
end Vf

namespace Vf
open PySem L2
section
variable {ι Z : Type} {m : Type → Type} [Eff m Z] {c : Ct ι Z} {g : Cg Z}
/-- y = x.pop() -/
def sPop (j i : Nat) : Sto → m Fl := fun ρ => match ρ[i]? with
  | some (.ow (.lst xs)) => match xs[xs.length - 1]? with
    | some d => pure (.nx ((ρ.set i (.ow (.lst xs.dropLast))).set j (.sh d)))
    | none => bad
  | _ => bad
theorem evs_pop (j i : Nat) {x y : Str} {px py apos cpos pos : Pos} (hN : ∀ k, (c.X k).N[i]? = some x) (hv : ∀ k, Vis (c.X k).env.scope x) (hd : (x == ("__debug__" : Str)) = false) (hcd : (x == ("__classdict__" : Str)) = false)
    (hp : ∀ k to, PE (c.X k) (.Name x px) to → PE (c.X k) (.Call (.Attribute (.Name x px) "pop" apos) [] [] cpos) (tBM0 c.K "list" rPop to))
    (hi : ∀ k, (c.X k).N[j]? = some y) (hx : ∀ k, Loc (c.X k).env.scope y) (hf : ∀ k, (c.X k).fn y = true ∨ (c.X k).env.scope.names.lookup y = some .local)
    (hs : ∀ k, swapsWith (.Call (.Attribute (.Name x px) "pop" apos) [] [] cpos) (some (.Name y py)) pos.line (c.X k).env = pure false) :
    EvS (m := m) c (.Assign [.Name y py] (.Call (.Attribute (.Name x px) "pop" apos) [] [] cpos) pos) (sPop j i) := by
  refine ⟨_, fun k => ps_set (c.nd k) (hi k) (hx k) (hp k _ (pe_var (hN k) (hv k) hd hcd)) (hs k) (hf k), fun H0 F0 ρ F σ H z Dn S rz h => ?_⟩
  unfold sPop at h
  split at h
  · rename_i xs eo
    obtain ⟨a, ea, no, nf, vs, q, rv⟩ := S.own eo
    split at h
    · rename_i d ed
      refine ⟨.ref a, ea, .inl ⟨rfl, _, SqL.of q⟩, ?_⟩
      obtain ⟨v, ev, rd⟩ := rv.get' ed
      rw [rv.length] at ev
      refine ⟨a, vs, v, rfl, rfl, q, ev, ?_⟩
      exact (OkP.pure (c := c) h) _ _ F ((S.mutate (d' := .lst xs.dropLast) (o' := .lst vs.dropLast) eo ea ⟨_, upd_same, rv.dropLast⟩).set j rd) (rep_mut no rz) (Same.refl _)
    · exact h.badF.elim
  · exact h.badF.elim
/-- x[k] = e, a list -/
def sSetL (i : Nat) (k e : Sto → m D) : Sto → m Fl := fun ρ => match ρ[i]? with
  | some (.ow (.lst xs)) => do
    let d ← e ρ
    let kd ← k ρ
    let kk ← Eff.lift (asI kd)
    match ixN xs.length kk with
    | some j => pure (.nx (ρ.set i (.ow (.lst (xs.set j d)))))
    | none => bad
  | _ => bad
theorem asI_ok {d : D} {H0 F0 : Hp} {z : Z} {p : Int → Z → Prop} (h : OkP c H0 F0 (Eff.run (Eff.lift (asI d) : m Int) z) p) : ∃ b, d = .int b ∧ p b z := by
  have h := h.lift
  cases d with
  | int b => exact ⟨b, rfl, h⟩
  | _ => exact h.elim
theorem evs_setL (i : Nat) {x : Str} {e k : Expr} {fe fk : Sto → m D} {px tpos pos : Pos} (hN : ∀ j, (c.X j).N[i]? = some x) (hv : ∀ j, Vis (c.X j).env.scope x) (hd : (x == ("__debug__" : Str)) = false) (hcd : (x == ("__classdict__" : Str)) = false)
    (hp : ∀ j te to tk, PE (c.X j) e te → PE (c.X j) (.Name x px) to → PE (c.X j) k tk → PS (c.X j) (.Assign [.Subscript (.Name x px) k tpos] e pos) (tAsg te (gSub to tk rSetL)))
    (he : EvE c e fe) (hk : EvE c k fk) : EvS c (.Assign [.Subscript (.Name x px) k tpos] e pos) (sSetL i fk fe) := by
  obtain ⟨te, pe, ke⟩ := he
  obtain ⟨tk, pk, kk⟩ := hk
  refine ⟨_, fun j => hp j _ _ _ (pe j) (pe_var (hN j) (hv j) hd hcd) (pk j), fun H0 F0 ρ F σ H z Dn S rz h => ?_⟩
  unfold sSetL at h
  split at h
  · rename_i xs eo
    obtain ⟨a, ea, no, nf, vs, q, rv⟩ := S.own eo
    refine ke _ _ _ _ _ _ _ _ S rz (h.bind.imp fun d z1 h v H1 F1 G1 rz1 r => ?_)
    have S1 := S.grow G1
    refine ⟨.ref a, ea, ?_⟩
    refine kk _ _ _ _ _ _ _ _ S1 rz1 (h.bind.imp fun kd z2 h w H2 F2 G2 rz2 r2 => ?_)
    have S2 := S1.grow G2
    obtain ⟨n, en, h2⟩ := asI_ok h.bind
    subst en
    split at h2
    · rename_i j ej
      have q2 := G2.hh _ _ no (G1.hh _ _ no q)
      refine ⟨a, vs, n, j, rfl, r2, q2, by rw [← rv.length]; exact ej, ?_⟩
      exact (OkP.pure (c := c) h2) σ _ F2 (S2.mutate (d' := .lst (xs.set j d)) (o' := .lst (vs.set j v)) eo ea ⟨_, upd_same, RepFs.set (RepF.mono G2.ff _ _ r) j (RepFs.mono (G1.ff.trans G2.ff) _ _ rv)⟩) (rep_mut no rz2) (G1.ff.trans G2.ff)
    · exact h2.badF.elim
  · exact h.badF.elim
/-- d[k] = e, a dict -/
def putD (d k v : D) : Option D := match d with
  | .dk kvs => match keyD k with
    | some x => if kvs.length < lim then some (.dk (setK kvs x v)) else none
    | none => none
  | .dt kvs => match k with
    | .tup ks => match keysD ks with
      | some x => if kvs.length < lim then some (.dt (setK kvs x v)) else none
      | none => none
    | _ => none
  | _ => none
theorem putD_ok {F H : Hp} {d k x d' : D} {a : Addr} {y v : V} (s : Sub F H) (r : OwnAt F H d a) (ry : RepF F k y) (rv : RepF F x v) (e : putD d k x = some d') : ∃ o', DPut H a y v (upd H a o') ∧ OwnAt F (upd H a o') d' a := by
  unfold putD at e
  split at e
  · rename_i kvs
    split at e
    · rename_i kk ek
      obtain ⟨ks, q, rk⟩ := r
      split at e
      · rename_i hl
        cases e
        have ey : y = kV kk := keyD_rep ek ry
        subst ey
        have rp := repK_iff.mp rk
        refine ⟨.dK (putK ks kk v), DPut.k q (by rw [← rp.length, ← lim_eq]; exact hl), _, upd_same, repK_iff.mpr (rp.put kk rv)⟩
      · cases e
    · cases e
  · rename_i kvs
    split at e
    · rename_i kd
      split at e
      · rename_i kk ek
        obtain ⟨ks, q, rk⟩ := r
        split at e
        · rename_i hl
          cases e
          obtain ⟨b, vs, rfl, qb, rb⟩ := ry
          have ev := keysD_rep ek rb
          subst ev
          have rp := repT_iff.mp rk
          refine ⟨.dT (putK ks kk v), DPut.t q (s _ _ qb) (by rw [← rp.length, ← lim_eq]; exact hl), _, upd_same, repT_iff.mpr (rp.put kk rv)⟩
        · cases e
      · cases e
    · cases e
  · cases e
def sSetD (i : Nat) (k e : Sto → m D) : Sto → m Fl := fun ρ => match ρ[i]? with
  | some (.ow dd) => do
    let d ← e ρ
    let kd ← k ρ
    match putD dd kd d with
    | some d' => pure (.nx (ρ.set i (.ow d')))
    | none => bad
  | _ => bad
theorem evs_setD (i : Nat) {x : Str} {e k : Expr} {fe fk : Sto → m D} {px tpos pos : Pos} (hN : ∀ j, (c.X j).N[i]? = some x) (hv : ∀ j, Vis (c.X j).env.scope x) (hd : (x == ("__debug__" : Str)) = false) (hcd : (x == ("__classdict__" : Str)) = false)
    (hp : ∀ j te to tk, PE (c.X j) e te → PE (c.X j) (.Name x px) to → PE (c.X j) k tk → PS (c.X j) (.Assign [.Subscript (.Name x px) k tpos] e pos) (sDPut to tk te))
    (he : EvE c e fe) (hk : EvE c k fk) : EvS c (.Assign [.Subscript (.Name x px) k tpos] e pos) (sSetD i fk fe) := by
  obtain ⟨te, pe, ke⟩ := he
  obtain ⟨tk, pk, kk⟩ := hk
  refine ⟨_, fun j => hp j _ _ _ (pe j) (pe_var (hN j) (hv j) hd hcd) (pk j), fun H0 F0 ρ F σ H z Dn S rz h => ?_⟩
  unfold sSetD at h
  split at h
  · rename_i dd eo
    obtain ⟨a, ea, no, nf, ro⟩ := S.own eo
    refine ke _ _ _ _ _ _ _ _ S rz (h.bind.imp fun d z1 h v H1 F1 G1 rz1 r => ?_)
    have S1 := S.grow G1
    refine ⟨.ref a, ea, ?_⟩
    refine kk _ _ _ _ _ _ _ _ S1 rz1 (h.bind.imp fun kd z2 h w H2 F2 G2 rz2 r2 => ?_)
    have S2 := S1.grow G2
    split at h
    · rename_i d' ed
      obtain ⟨o', dp, ow⟩ := putD_ok S2.fh ((ro.grow no G1).grow no G2) r2 (RepF.mono G2.ff _ _ r) ed
      exact ⟨a, _, rfl, dp, (OkP.pure (c := c) h) σ _ F2 (S2.mutate eo ea ow) (rep_mut no rz2) (G1.ff.trans G2.ff)⟩
    · exact h.badF.elim
  · exact h.badF.elim
/-- x op= e, a frozen name -/
def sAug (i : Nat) (f : D → D → Res D) (e : Sto → m D) : Sto → m Fl := fun ρ => match ρ[i]? with
  | some (.sh d) => do
    let y ← e ρ
    let r ← Eff.lift (f d y)
    pure (.nx (ρ.set i (.sh r)))
  | _ => bad
theorem evs_aug (i : Nat) {x : Str} {e : Expr} {fe : Sto → m D} {op : Operator} {ti : TIp} {f : D → D → Res D} {px pos : Pos} (hN : ∀ j, (c.X j).N[i]? = some x) (hx : ∀ j, Loc (c.X j).env.scope x) (hf : ∀ j, (c.X j).fn x = true ∨ (c.X j).env.scope.names.lookup x = some .local)
    (ho : ∀ j, PIp (c.X j) op ti) (h2 : Op2 c.g ti f) (he : EvE c e fe) : EvS c (.AugAssign (.Name x px) op e pos) (sAug i f fe) := by
  obtain ⟨te, pe, ke⟩ := he
  refine ⟨_, fun j => ps_aug (c.nd j) (hN j) (hx j) (pe j) (ho j) (hf j), fun H0 F0 ρ F σ H z Dn S rz h => ?_⟩
  unfold sAug at h
  split at h
  · rename_i d eo
    obtain ⟨o, ev, v, ex, rv⟩ := S.sl i _ eo
    subst ex
    refine ⟨v, ev, ?_⟩
    refine ke _ _ _ _ _ _ _ _ S rz (h.bind.imp fun y z1 h w H1 F1 G1 rz1 r => ?_)
    have S1 := S.grow G1
    obtain ⟨tm, k⟩ := h2 F1 H1 v w d y (fun z H2 => Dn.nx (σ.set i (some z)) H2) S1.fh (.inl (RepF.mono G1.ff _ _ rv)) (.inl r)
    obtain ⟨a, ea, h⟩ := h.bind.is tm
    refine k a ea fun u H2 F2 G2 ru => ?_
    exact (OkP.pure (c := c) h) _ H2 F2 ((S1.grow G2.of0).set i ru) (G2.rep0 S1.go rz1) (G1.ff.trans G2.ff)
  · exact h.badF.elim
theorem op2_iadd : Op2 g (ipI fun i j => i + j) addI := op2_int (fun _ _ => trivial) fun i j H Q a ea k => by cases ea; exact ⟨i, j, rfl, rfl, k _ fun _ => rfl⟩
theorem op2_isub : Op2 g (ipI fun i j => i - j) subD := op2_int (fun _ _ => trivial) fun i j H Q a ea k => by cases ea; exact ⟨i, j, rfl, rfl, k _ fun _ => rfl⟩

/-! ### defs -/
/-- what a def promises: its mirror's answer -/
def spZ (g : Cg Z) (xr : Exc → Value → Option Addr → Hp → Hp → Prop) (n : Nat) (f : List D → m D) : Sp := fun vs H Q E => ∃ F ds z, ds.length = n ∧ Sub F H ∧ (∀ a, g.own a → H a ≠ none) ∧ (∀ a, g.own a → F a = none) ∧ RepFs F ds vs ∧ g.rep z H ∧
  match Eff.run (f ds) z with
  | .ok d z' => ∀ v H' F', Grow g H F H' F' → g.rep z' H' → RepF F' d v → Q v H'
  | .ex e z' => ∀ cls dx H' F', Grow g H F H' F' → g.rep z' H' → xr e cls dx F' H' → E cls dx H'
  | .bad => False
def initS (N : Nat) (ds : List D) : Sto := ds.map .sh ++ List.replicate (N - ds.length) .no
/-- a body's mirror, run from the arguments -/
def runB (N : Nat) (h : Sto → m Fl) (ds : List D) : m D := do
  let r ← h (initS N ds)
  match r with
  | .nx _ => pure .non
  | .rt d => pure d
  | _ => bad
theorem RepFs.some_of {F : Hp} : ∀ {ds : List D} {vs : List V} {i : Nat} {d : D}, RepFs F ds vs → ds[i]? = some d → ∃ v, vs[i]? = some v ∧ RepF F d v := fun r e => r.get' e
theorem sta_init {H F : Hp} {ds : List D} {vs : List V} {N : List Str} (s : Sub F H) (go : ∀ a, g.own a → H a ≠ none) (gf : ∀ a, g.own a → F a = none) (r : RepFs F ds vs) : Sta g H F (initS N.length ds) F (L2.start N vs) H := by
  have hl := r.length
  refine ⟨Grow.refl s, go, gf, ?_, fun i sl e => ?_, fun i j d e a h1 h2 h3 h4 => ?_⟩
  · unfold L2.start initS
    simp [hl]
  · unfold initS at e
    unfold L2.start
    by_cases hi : i < ds.length
    · rw [List.getElem?_append_left (by rw [List.length_map]; exact hi), List.getElem?_map] at e
      cases q : ds[i]? with
      | none => rw [q] at e; cases e
      | some d =>
        rw [q] at e
        cases e
        obtain ⟨v, ev, rv⟩ := r.get' q
        refine ⟨some v, ?_, v, rfl, rv⟩
        rw [List.getElem?_append_left (by rw [List.length_map, ← hl]; exact hi), List.getElem?_map, ev]; rfl
    · rw [List.getElem?_append_right (by rw [List.length_map]; omega), List.getElem?_replicate] at e
      split at e
      · rename_i h
        cases e
        rw [List.length_map] at h
        refine ⟨none, ?_, trivial⟩
        rw [List.getElem?_append_right (by rw [List.length_map]; omega), List.getElem?_replicate, if_pos (by rw [List.length_map]; omega)]
      · cases e
  · exfalso
    unfold initS at h1
    by_cases hi : i < ds.length
    · rw [List.getElem?_append_left (by rw [List.length_map]; exact hi), List.getElem?_map] at h1
      cases q : ds[i]? <;> rw [q] at h1 <;> cases h1
    · rw [List.getElem?_append_right (by rw [List.length_map]; omega), List.getElem?_replicate] at h1
      split at h1 <;> cases h1
/-- the end of a def's body -/
theorem body_end {H F : Hp} {ds : List D} {vs : List V} {N : List Str} {t : TS} {h : Sto → m Fl} {Q : VK} {z : Z} (k : SemS c t h) (s : Sub F H) (go : ∀ a, c.g.own a → H a ≠ none) (gf : ∀ a, c.g.own a → F a = none) (r : RepFs F ds vs) (rz : c.g.rep z H)
    (q : match Eff.run (runB N.length h ds) z with
      | .ok d z' => ∀ v H' F', Grow c.g H F H' F' → c.g.rep z' H' → RepF F' d v → Q v H'
      | .ex e z' => ∀ cls dx H' F', Grow c.g H F H' F' → c.g.rep z' H' → c.xr e cls dx F' H' → c.E cls dx H'
      | .bad => False) : t { nx := fun _ H' => Q .non H', rt := Q } (L2.start N vs) H := by
  refine k H F (initS N.length ds) F (L2.start N vs) H z _ (sta_init s go gf r) rz ?_
  unfold runB at q
  rw [Eff.run_bind] at q
  cases e : Eff.run (h (initS N.length ds)) z with
  | bad => rw [e] at q; exact q
  | ex x z' => rw [e] at q; exact q
  | ok fl z' =>
    rw [e] at q
    cases fl with
    | nx ρ' =>
      have q : match Eff.run (pure D.non : m D) z' with
        | .ok d z' => ∀ v H' F', Grow c.g H F H' F' → c.g.rep z' H' → RepF F' d v → Q v H'
        | .ex e z' => ∀ cls dx H' F', Grow c.g H F H' F' → c.g.rep z' H' → c.xr e cls dx F' H' → c.E cls dx H'
        | .bad => False := q
      rw [Eff.run_pure] at q
      exact fun σ' H' F' S' r' f => q .non H' F' S'.gr r' rfl
    | rt d =>
      have q : match Eff.run (pure d : m D) z' with
        | .ok d z' => ∀ v H' F', Grow c.g H F H' F' → c.g.rep z' H' → RepF F' d v → Q v H'
        | .ex e z' => ∀ cls dx H' F', Grow c.g H F H' F' → c.g.rep z' H' → c.xr e cls dx F' H' → c.E cls dx H'
        | .bad => False := q
      rw [Eff.run_pure] at q
      exact q
    | bk ρ' =>
      have q : match Eff.run (bad : m D) z' with
        | .ok d z' => ∀ v H' F', Grow c.g H F H' F' → c.g.rep z' H' → RepF F' d v → Q v H'
        | .ex e z' => ∀ cls dx H' F', Grow c.g H F H' F' → c.g.rep z' H' → c.xr e cls dx F' H' → c.E cls dx H'
        | .bad => False := q
      unfold bad at q
      rw [Eff.run_lift] at q
      exact q.elim
    | ct ρ' =>
      have q : match Eff.run (bad : m D) z' with
        | .ok d z' => ∀ v H' F', Grow c.g H F H' F' → c.g.rep z' H' → RepF F' d v → Q v H'
        | .ex e z' => ∀ cls dx H' F', Grow c.g H F H' F' → c.g.rep z' H' → c.xr e cls dx F' H' → c.E cls dx H'
        | .bad => False := q
      unfold bad at q
      rw [Eff.run_lift] at q
      exact q.elim
/-- a def that stands in the module and keeps its promise -/
structure Kept (P : Program) (w : World) (K : PySem.W.Frag) (mg : Str → Option Value) (base : Heap) (CX : CXT) (x : Str) (k n : Nat) (sp : Sp) : Prop where
  it : ∃ f fd ps, ps.length = n ∧ FnOk P w K mg base CX k f fd ps sp ∧ mg x = some (.ref f) ∧ PySem.W.keepIn K (.ref f) = true ∧ Binds K fd ps []
/-- a call of such a def -/
def eCall (f : List D → m D) (a : Sto → m (List D)) : Sto → m D := fun ρ => do
  let ds ← a ρ
  f ds
theorem ev_callZ {x : Str} {k n : Nat} {f : List D → m D} {e : Expr} {es : List Expr} {fa : Sto → m (List D)} {p pos : Pos} (hk : Kept c.P c.w c.K c.mg c.base c.CX x k n (spZ c.g c.xr n f)) (hr : k ≤ c.k) (hg : ∀ i, Gl (c.X i) x)
    (hl : ∀ ds, ds.length ≠ n → f ds = bad) (hdb : (x == ("__debug__" : Str)) = false)
    (hpe : ∀ i (f' : Addr) fd ps sp t, FnOk (c.X i).prog (c.X i).w (c.X i).K (c.X i).mg (c.X i).base c.CX k f' fd ps sp → Room k (c.X i).A → (c.X i).mg x = some (.ref f') → PySem.W.keepIn (c.X i).K (.ref f') = true → Binds (c.X i).K fd ps [] → Passes c.CX (c.X i) c.E → PA (c.X i) (e :: es) t →
      PE (c.X i) (.Call (.Name x p) (e :: es) [] pos) (tCall sp [] c.E t)) (ha : EvAF c (e :: es) fa) : EvE c (.Call (.Name x p) (e :: es) [] pos) (eCall f fa) := by
  obtain ⟨f', fd, ps, hn, F, hm, hkp, hb⟩ := hk.it
  obtain ⟨ta, pa, ka⟩ := ha
  refine ⟨tCall (spZ c.g c.xr n f) [] c.E ta, fun i => hpe i f' fd ps _ ta (by rw [c.hP, c.hw, c.hK, c.hm, c.hb]; exact F) ((c.room i).mono hr) (by rw [c.hm]; exact hm) (by rw [c.hK]; exact hkp) (by rw [c.hK]; exact hb) (c.hx i) (pa i), fun H0 F0 ρ F σ H z Q S rz h => ?_⟩
  refine ka _ _ _ _ _ _ _ _ S rz (h.bind.imp fun ds z1 h vs H1 F1 G1 rz1 r1 => ?_)
  have S1 := S.grow G1
  rw [List.append_nil]
  by_cases hd : ds.length = n
  · refine ⟨F1, ds, z1, hd, S1.fh, S1.go, S1.gf, r1, rz1, ?_⟩
    cases q : Eff.run (f ds) z1 with
    | ok d z2 => rw [q] at h; exact fun v H' F' G rz' rv => h v H' F' (G1.trans G) rz' rv
    | ex e z2 => rw [q] at h; exact fun cls dx H' F' G rz' rx => h cls dx H' F' (S1.gr.trans G) rz' rx
    | bad => rw [q] at h; exact h
  · rw [hl ds hd] at h
    exact h.badF.elim
/-- arguments one by one -/
def l0 (f : m D) : List D → m D
  | [] => f
  | _ => bad
def l1 (f : D → m D) : List D → m D
  | [a] => f a
  | _ => bad
def l2 (f : D → D → m D) : List D → m D
  | [a, b] => f a b
  | _ => bad
def l3 (f : D → D → D → m D) : List D → m D
  | [a, b, c] => f a b c
  | _ => bad
def l4 (f : D → D → D → D → m D) : List D → m D
  | [a, b, c, d] => f a b c d
  | _ => bad
def l5 (f : D → D → D → D → D → m D) : List D → m D
  | [a, b, c, d, e] => f a b c d e
  | _ => bad
def l6 (f : D → D → D → D → D → D → m D) : List D → m D
  | [a, b, c, d, e, g] => f a b c d e g
  | _ => bad
theorem l0_len (f : m D) (ds : List D) (h : ds.length ≠ 0) : l0 f ds = bad := by
  match ds, h with
  | [], h => exact absurd rfl h
  | _ :: _, _ => rfl
theorem l1_len (f : D → m D) (ds : List D) (h : ds.length ≠ 1) : l1 f ds = bad := by
  match ds, h with
  | [], _ => rfl
  | [_], h => exact absurd rfl h
  | _ :: _ :: _, _ => rfl
theorem l2_len (f : D → D → m D) (ds : List D) (h : ds.length ≠ 2) : l2 f ds = bad := by
  match ds, h with
  | [], _ => rfl
  | [_], _ => rfl
  | [_, _], h => exact absurd rfl h
  | _ :: _ :: _ :: _, _ => rfl
theorem l3_len (f : D → D → D → m D) (ds : List D) (h : ds.length ≠ 3) : l3 f ds = bad := by
  match ds, h with
  | [], _ => rfl
  | [_], _ => rfl
  | [_, _], _ => rfl
  | [_, _, _], h => exact absurd rfl h
  | _ :: _ :: _ :: _ :: _, _ => rfl
theorem l4_len (f : D → D → D → D → m D) (ds : List D) (h : ds.length ≠ 4) : l4 f ds = bad := by
  match ds, h with
  | [], _ => rfl
  | [_], _ => rfl
  | [_, _], _ => rfl
  | [_, _, _], _ => rfl
  | [_, _, _, _], h => exact absurd rfl h
  | _ :: _ :: _ :: _ :: _ :: _, _ => rfl
theorem l5_len (f : D → D → D → D → D → m D) (ds : List D) (h : ds.length ≠ 5) : l5 f ds = bad := by
  match ds, h with
  | [], _ => rfl
  | [_], _ => rfl
  | [_, _], _ => rfl
  | [_, _, _], _ => rfl
  | [_, _, _, _], _ => rfl
  | [_, _, _, _, _], h => exact absurd rfl h
  | _ :: _ :: _ :: _ :: _ :: _ :: _, _ => rfl
theorem l6_len (f : D → D → D → D → D → D → m D) (ds : List D) (h : ds.length ≠ 6) : l6 f ds = bad := by
  match ds, h with
  | [], _ => rfl
  | [_], _ => rfl
  | [_, _], _ => rfl
  | [_, _, _], _ => rfl
  | [_, _, _, _], _ => rfl
  | [_, _, _, _, _], _ => rfl
  | [_, _, _, _, _, _], h => exact absurd rfl h
  | _ :: _ :: _ :: _ :: _ :: _ :: _ :: _, _ => rfl
/-- a call, from any ghost, of a def that knows none -/
theorem ev_call0 {x : Str} {k n : Nat} {f : List D → Res D} {e : Expr} {es : List Expr} {fa : Sto → m (List D)} {p pos : Pos} (hk : Kept c.P c.w c.K c.mg c.base c.CX x k n (spZ g0 c.xr n f)) (hr : k ≤ c.k) (hl : ∀ ds, ds.length ≠ n → f ds = bad)
    (hpe : ∀ i (f' : Addr) fd ps sp t, FnOk (c.X i).prog (c.X i).w (c.X i).K (c.X i).mg (c.X i).base c.CX k f' fd ps sp → Room k (c.X i).A → (c.X i).mg x = some (.ref f') → PySem.W.keepIn (c.X i).K (.ref f') = true → Binds (c.X i).K fd ps [] → Passes c.CX (c.X i) c.E → PA (c.X i) (e :: es) t →
      PE (c.X i) (.Call (.Name x p) (e :: es) [] pos) (tCall sp [] c.E t)) (ha : EvAF c (e :: es) fa) : EvE c (.Call (.Name x p) (e :: es) [] pos) (eN f fa) := by
  obtain ⟨f', fd, ps, hn, F, hm, hkp, hb⟩ := hk.it
  obtain ⟨ta, pa, ka⟩ := ha
  refine ⟨tCall (spZ g0 c.xr n f) [] c.E ta, fun i => hpe i f' fd ps _ ta (by rw [c.hP, c.hw, c.hK, c.hm, c.hb]; exact F) ((c.room i).mono hr) (by rw [c.hm]; exact hm) (by rw [c.hK]; exact hkp) (by rw [c.hK]; exact hb) (c.hx i) (pa i), fun H0 F0 ρ F σ H z Q S rz h => ?_⟩
  refine ka _ _ _ _ _ _ _ _ S rz (h.bind.imp fun ds z1 h vs H1 F1 G1 rz1 r1 => ?_)
  have S1 := S.grow G1
  rw [List.append_nil]
  have h := h.lift
  by_cases hd : ds.length = n
  · refine ⟨F1, ds, (), hd, S1.fh, fun a z => z.elim, fun a z => z.elim, r1, trivial, ?_⟩
    cases q : f ds with
    | ok d =>
      rw [q] at h
      exact fun v H' F' G _ rv => h v H' F' (G1.trans G.of0) (G.rep0 S1.go rz1) rv
    | ex e =>
      rw [q] at h
      exact fun cls dx H' F' G _ rx => h cls dx H' F' (S1.gr.trans G.of0) (G.rep0 S1.go rz1) rx
    | bad => rw [q] at h; exact h.elim
  · rw [hl ds hd] at h
    exact h.elim
end
end Vf

namespace Vf
open PySem L2
section
open PySem.Spec PyProof.Rows
variable {Z : Type} {m : Type → Type} [Eff m Z]
/-- the context of a def's body -/
abbrev bodyCt (P : Program) (w : World) (K : PySem.W.Frag) (mg : Str → Option Value) (base : Heap) (N : List Str) (qual : Str) (st : Stmt) (f : Addr) (cdv : Value) (A : Around) (outer : List Env) (s : Shared) (H : Hp) (E : XK) (xr : Exc → Value → Option Addr → Hp → Hp → Prop) (g : Cg Z) (k : Nat)
    (hr : Room k (A.deeper (envOfC qual (defScope st) s.heap.objs.size f cdv))) (nd : N.Nodup) : Ct Unit Z where
  X := fun _ => cxOf (L2.CX P w) P w K mg base N qual (defScope st) f cdv A outer s H E
  P := P
  w := w
  K := K
  mg := mg
  base := base
  CX := L2.CX P w
  E := E
  xr := xr
  g := g
  k := k
  hP := fun _ => rfl
  hw := fun _ => rfl
  hK := fun _ => rfl
  hm := fun _ => rfl
  hb := fun _ => rfl
  calm := fun _ => rfl
  room := fun _ => hr
  nd := fun _ => nd
  hx := fun _ => passes_call (takes_of rfl rfl rfl rfl) fun _ _ _ _ h => h
  hx0 := fun X hP hw => by subst hP hw; exact passL
/-- THE RULE for a def: its body's mirror is its promise -/
theorem kept_of {P : Program} {w : World} {K : PySem.W.Frag} {mg : Str → Option Value} {base : Heap} {x : Str} {st : Stmt} {f : Addr} {fd : FuncData} {N ps : List Str} {k n : Nat} {g : Cg Z} {xr : Exc → Value → Option Addr → Hp → Hp → Prop} {mf : List D → m D} {h : Sto → m Fl}
    (F : Fun K x x st f fd) (hm : mg x = some (.ref f)) (hb : Binds K fd ps []) (S : FnScope N ps (defScope st)) (hn : ps.length = n) (hf : ∀ ds, ds.length = n → mf ds = runB N.length h ds)
    (body : ∀ (cdv : Value) (A : Around) (outer : List Env) (s : Shared) (H : Hp) (E : XK) (hr : Room k (A.deeper (envOfC x (defScope st) s.heap.objs.size f cdv))), EvSs (bodyCt P w K mg base N x st f cdv A outer s H E xr g k hr S.nd) (defBody st) h) :
    Kept P w K mg base (L2.CX P w) x (k + 1) n (spZ g xr n mf) := by
  refine ⟨f, fd, ps, hn, F.okX S (fun vs H Q E h => ?_) (fun cdv A outer s H vs Q E hr h => ?_), hm, F.kp, hb⟩
  · obtain ⟨F', ds, z, hd, _, _, _, r, _⟩ := h
    rw [hn, ← hd, r.length]
  · obtain ⟨F', ds, z, hd, sb, go, gf, r, rz, q⟩ := h
    obtain ⟨t, pt, kt⟩ := body cdv A outer s H E hr
    refine ⟨t, pt (), ?_⟩
    rw [hf ds hd] at q
    exact body_end (c := bodyCt P w K mg base N x st f cdv A outer s H E xr g k hr S.nd) kt sb go gf r rz q
end

section
variable {ι Z : Type} {m : Type → Type} [Eff m Z] {c : Ct ι Z} {g : Cg Z}
/-! ### built-ins -/
def intsD : List D → Option (List Int)
  | [] => some []
  | .int i :: ds => match intsD ds with
    | some is => some (i :: is)
    | none => none
  | _ => none
theorem intsD_rep {F : Hp} : ∀ {ds : List D} {is : List Int} {vs : List V}, intsD ds = some is → RepFs F ds vs → vs = is.map V.int
  | [], is, vs, e, h => by cases e; exact h
  | .int i :: ds, is, vs, e, ⟨v, r, ev, h, t⟩ => by
    subst ev
    unfold intsD at e
    cases q : intsD ds with
    | none => rw [q] at e; cases e
    | some is' =>
      rw [q] at e
      cases e
      have h : v = .int i := h
      rw [h, intsD_rep q t]; rfl
  | .non :: _, _, _, e, _ => by cases e
  | .bl _ :: _, _, _, e, _ => by cases e
  | .str _ :: _, _, _, e, _ => by cases e
  | .ref _ :: _, _, _, e, _ => by cases e
  | .ty _ :: _, _, _, e, _ => by cases e
  | .tup _ :: _, _, _, e, _ => by cases e
  | .lst _ :: _, _, _, e, _ => by cases e
  | .dk _ :: _, _, _, e, _ => by cases e
  | .dt _ :: _, _, _, e, _ => by cases e
theorem intsD_map : ∀ is : List Int, intsD (is.map D.int) = some is
  | [] => rfl
  | i :: is => by show (match intsD (is.map D.int) with | some is => some (i :: is) | none => none) = _; rw [intsD_map is]
/-- the greatest of a list that is not empty -/
def maxI : List Int → Int
  | [] => 0
  | [i] => i
  | i :: is => max i (maxI is)
theorem maxI_cons (i j : Int) (is : List Int) : maxI (i :: j :: is) = max i (maxI (j :: is)) := rfl
theorem maxI_mem : ∀ {is : List Int}, is ≠ [] → maxI is ∈ is
  | [], h => absurd rfl h
  | [i], _ => List.mem_cons_self
  | i :: j :: is, _ => by
    rw [maxI_cons]
    have ih := maxI_mem (is := j :: is) (List.cons_ne_nil _ _)
    by_cases h : i ≤ maxI (j :: is)
    · rw [Int.max_eq_right h]; exact List.mem_cons_of_mem _ ih
    · rw [Int.max_eq_left (by omega)]; exact List.mem_cons_self
theorem maxI_ge : ∀ {is : List Int} {x : Int}, x ∈ is → x ≤ maxI is
  | [], _, h => by cases h
  | [i], x, h => by
    rcases List.mem_cons.mp h with e | e
    · subst e; exact Int.le_refl _
    · cases e
  | i :: j :: is, x, h => by
    rw [maxI_cons]
    rcases List.mem_cons.mp h with e | e
    · subst e; exact Int.le_max_left _ _
    · exact Int.le_trans (maxI_ge e) (Int.le_max_right _ _)
def minI (is : List Int) : Int := -(maxI (is.map fun i => -i))
def maxD (d : D) : Res D := match d with
  | .lst xs => match intsD xs with
    | some (i :: is) => .ok (.int (maxI (i :: is)))
    | _ => .bad
  | _ => .bad
theorem opN_max {K : PySem.W.Frag} : OpN g (rMax K) (f1 maxD) := by
  refine opN1 fun F H v d Q s hb => ?_
  cases d with
  | lst xs =>
    obtain ⟨a, vs, rfl, q, r⟩ := hb.lst s
    show (match intsD xs with | some (i :: is) => Res.ok (D.int (maxI (i :: is))) | _ => .bad : Res D).Tame ∧ _
    refine ⟨by split <;> trivial, fun b eb k => ?_⟩
    have eb : (match intsD xs with | some (i :: is) => Res.ok (D.int (maxI (i :: is))) | _ => .bad : Res D) = .ok b := eb
    split at eb
    · rename_i i is e
      cases eb
      have ev := intsD_rep e r
      subst ev
      refine ⟨a, i :: is, rfl, SqL.of q, Nat.succ_pos _, fun mx hm hmx => ?_⟩
      have e1 : mx = maxI (i :: is) := Int.le_antisymm (maxI_ge hm) (hmx _ (maxI_mem (List.cons_ne_nil _ _)))
      subst e1
      exact k _ H F (Grow.refl s) rfl
    · cases eb
  | _ => exact ⟨trivial, fun a ea => nomatch ea⟩
/-- sum of a list of ints -/
def sumD (d : D) : Res D := match d with
  | .lst xs => match intsD xs with
    | some is => .ok (.int is.sum)
    | _ => .bad
  | _ => .bad
theorem opN_sum {K : PySem.W.Frag} : OpN g (rSum K) (f1 sumD) := by
  refine opN1 fun F H v d Q s hb => ?_
  cases d with
  | lst xs =>
    obtain ⟨a, vs, rfl, q, r⟩ := hb.lst s
    show (match intsD xs with | some is => Res.ok (D.int is.sum) | _ => .bad : Res D).Tame ∧ _
    refine ⟨by split <;> trivial, fun b eb k => ?_⟩
    have eb : (match intsD xs with | some is => Res.ok (D.int is.sum) | _ => .bad : Res D) = .ok b := eb
    split at eb
    · rename_i is e
      cases eb
      have ev := intsD_rep e r
      subst ev
      exact ⟨a, is, rfl, SqL.of q, k _ H F (Grow.refl s) rfl⟩
    · cases eb
  | _ => exact ⟨trivial, fun a ea => nomatch ea⟩
/-- int(n) -/
def intD (d : D) : Res D := match d with
  | .int i => .ok (.int i)
  | _ => .bad
theorem opN_int : OpN g (fun xs H Q => (∃ i, xs = [.int i] ∧ Q (.int i) H) ∨ ∃ k, xs = [.bl k] ∧ Q (.int (if k then 1 else 0)) H) (f1 intD) := by
  refine opN1 fun F H v d Q s hb => ?_
  cases d with
  | int i =>
    refine ⟨trivial, fun a ea k => ?_⟩
    cases ea
    rw [hb.int]
    exact .inl ⟨i, rfl, k _ H F (Grow.refl s) rfl⟩
  | _ => exact ⟨trivial, fun a ea => nomatch ea⟩
/-- tuple(x) -/
def tupleD (d : D) : Res D := match d with
  | .lst xs => .ok (.tup xs)
  | .tup xs => .ok (.tup xs)
  | _ => .bad
theorem opN_tuple {K : PySem.W.Frag} : OpN g (fun xs H Q => ∃ p ys, xs = [.ref p] ∧ ((SqL K H p ys ∧ ∀ l, H l = none → Q (.ref l) (upd H l (.tup ys))) ∨ (SqT K H p ys ∧ Q (.ref p) H))) (f1 tupleD) := by
  refine opN1 fun F H v d Q s hb => ?_
  cases d with
  | lst xs =>
    refine ⟨trivial, fun a ea k => ?_⟩
    cases ea
    obtain ⟨p, vs, rfl, q, r⟩ := hb.lst s
    refine ⟨p, vs, rfl, .inl ⟨SqL.of q, fun t ht => ?_⟩⟩
    have G := Grow.new (o := .tup vs) s ht
    exact k _ _ _ G ⟨t, vs, rfl, upd_same, RepFs.mono G.ff _ _ r⟩
  | tup xs =>
    refine ⟨trivial, fun a ea k => ?_⟩
    cases ea
    obtain ⟨p, vs, rfl, q, f, r⟩ := hb.tup s
    exact ⟨p, vs, rfl, .inr ⟨SqT.of q, k _ H F (Grow.refl s) ⟨p, vs, rfl, f, r⟩⟩⟩
  | _ => exact ⟨trivial, fun a ea => nomatch ea⟩
/-- list(x): a new list -/
def listD (d : D) : Res D := match d with
  | .lst xs => .ok (.lst xs)
  | .tup xs => .ok (.lst xs)
  | _ => .bad
theorem opNO_list {K : PySem.W.Frag} : OpNO g (fun xs H Q => ∃ p ys, xs = [.ref p] ∧ (SqL K H p ys ∨ SqT K H p ys) ∧ ∀ l, H l = none → Q (.ref l) (upd H l (.lst ys))) (f1 listD) := by
  refine opNO1 fun F H v d Q s hb => ?_
  have fin : ∀ (xs : List D) (vs : List V), RepFs F xs vs → (∀ p H' F', Grow g0 H F H' F' → H p = none → F' p = none → OwnAt F' H' (.lst xs) p → Q (.ref p) H') → ∀ l, H l = none → Q (.ref l) (upd H l (.lst vs)) := fun xs vs r k l hl => by
    have G := Grow.newO (o := .lst vs) s hl
    have nf : F l = none := by
      cases q : F l with
      | none => rfl
      | some o => rw [s _ _ q] at hl; cases hl
    exact k l _ F G hl nf ⟨vs, upd_same, r⟩
  cases d with
  | lst xs =>
    refine ⟨trivial, fun a ea k => ?_⟩
    cases ea
    obtain ⟨p, vs, rfl, q, r⟩ := hb.lst s
    exact ⟨p, vs, rfl, .inl (SqL.of q), fin xs vs r k⟩
  | tup xs =>
    refine ⟨trivial, fun a ea k => ?_⟩
    cases ea
    obtain ⟨p, vs, rfl, q, f, r⟩ := hb.tup s
    exact ⟨p, vs, rfl, .inr (SqT.of q), fin xs vs r k⟩
  | _ => exact ⟨trivial, fun a ea => nomatch ea⟩
/-- list(range(n)) -/
def eLR (f : Sto → m D) : Sto → m D := fun ρ => do
  let d ← f ρ
  let i ← Eff.lift (asI d)
  if 0 ≤ i ∧ i ≤ 16777216 then pure (.lst (rangeD 0 i.toNat)) else bad
theorem rgV_rep {F : Hp} {i : Int} : RepFs F (rangeD 0 i.toNat) (rgV 0 i) := by
  have e : rangeD 0 i.toNat = ((List.range i.toNat).map fun (j : Nat) => (0 + (j : Int))).map D.int := by unfold rangeD; rw [List.map_map]; rfl
  have e2 : rgV 0 i = ((List.range i.toNat).map fun (j : Nat) => (0 + (j : Int))).map V.int := by unfold rgV; rw [List.map_map, Int.sub_zero]; rfl
  rw [e, e2]
  have go : ∀ is : List Int, RepFs F (is.map D.int) (is.map V.int) := fun is => by
    induction is with
    | nil => rfl
    | cons i is ih => exact ⟨_, _, rfl, rfl, ih⟩
  exact go _
theorem eo_listRange {a : Expr} {f : Sto → m D} {p p2 q pos : Pos} (hp : ∀ i t, PE (c.X i) a t → PE (c.X i) (.Call (.Name "list" p) [.Call (.Name "range" p2) [a] [] q] [] pos) (tLstRg (tRg1 t))) (ha : EvE c a f) :
    EvO c (.Call (.Name "list" p) [.Call (.Name "range" p2) [a] [] q] [] pos) (eLR f) := by
  obtain ⟨t, pa, k⟩ := ha
  refine ⟨_, fun i => hp i t (pa i), fun H0 F0 ρ F σ H z Q S rz h => ?_⟩
  refine k _ _ _ _ _ _ _ _ S rz (h.bind.imp fun d z1 h v H1 F1 G1 rz1 r => ?_)
  have S1 := S.grow G1
  obtain ⟨i, ei, h2⟩ := asI_ok h.bind
  subst ei
  by_cases hi : 0 ≤ i ∧ i ≤ 16777216
  · rw [if_pos hi] at h2
    refine ⟨i, r, RgOk.of_le (by omega) hi.2 (by omega) hi.1, fun l hl => ?_⟩
    have G := Grow.newO (o := .lst (rgV 0 i)) S1.fh hl
    have n0 : H l = none := by
      cases q : H l with
      | none => rfl
      | some o => exact absurd hl (G1.os _ (some_ne q))
    exact (OkP.pure (c := c) h2) l _ F1 (G1.trans G.of0) (G.rep0 S1.go rz1) n0 (S1.freeF hl) ⟨_, upd_same, rgV_rep⟩
  · rw [if_neg hi] at h2
    exact h2.badF.elim
end

/-! ### len(set(t)) of a tuple of ints -/
def dedupI : List Int → List Int
  | [] => []
  | i :: is => if i ∈ is then dedupI is else i :: dedupI is
theorem dedupI_mem {x : Int} : ∀ {is : List Int}, x ∈ dedupI is ↔ x ∈ is
  | [] => Iff.rfl
  | i :: is => by
    unfold dedupI
    split
    · rename_i h
      rw [dedupI_mem, List.mem_cons]
      exact ⟨.inr, fun z => z.elim (fun e => e ▸ h) id⟩
    · rw [List.mem_cons, List.mem_cons, dedupI_mem]
theorem dedupI_nodup : ∀ is : List Int, (dedupI is).Nodup
  | [] => List.nodup_nil
  | i :: is => by
    unfold dedupI
    split
    · exact dedupI_nodup is
    · rename_i h
      exact List.nodup_cons.mpr ⟨fun z => h (dedupI_mem.mp z), dedupI_nodup is⟩
theorem dedupI_len {l is : List Int} (h : l.Nodup) (e : ∀ k, k ∈ l ↔ k ∈ is) : l.length = (dedupI is).length :=
  ((List.perm_ext_iff_of_nodup h (dedupI_nodup is)).mpr fun k => (e k).trans dedupI_mem.symm).length_eq
section
open PySem.Spec PyProof.Rows
def tLenSetT (K : PySem.W.Frag) (ta : TE) : TE := fun σ H Q => ta σ H fun x H1 => ∃ (l : Addr) (ns : List Int), x = .ref l ∧ SqT K H1 l (ns.map V.int) ∧ ns.length ≤ 4000 ∧ Q (.int ((dedupI ns).length : Nat)) H1
theorem pe_lenSetT {X : Cx} {a : Expr} {ta : TE} {p p2 q pos : Pos} (hg : Gl X "len") (hm : X.mg "len" = none) (hg2 : Gl X "set") (hm2 : X.mg "set" = none) (ha : PE X a ta) (hc : X.calm = true)
    (na : starEach [a] X.env = (false, eval a X.env) :: starEach [] X.env) : PE X (.Call (.Name "len" p) [.Call (.Name "set" p2) [a] [] q] [] pos) (tLenSetT X.K ta) := by
  refine ⟨fun pins s σ H Q I h => ?_⟩
  refine Call_ (ld_blt I hg hm boot_len ?_)
  refine PyProof.Rows.callWith_builtin1 (PyProof.Rows.args_cons ?_ rfl) rfl rfl
  refine Call_ (ld_blt I hg2 hm2 boot_set ?_)
  refine PyProof.Rows.callWith_type1 (PyProof.Rows.args_cons (thn (ha.run pins s σ H _ I h) fun v s1 ⟨x, H1, I1, r1, q1⟩ => PyProof.Rows.args_nil ?_) na) na rfl
  obtain ⟨l, ns, rfl, hq, hl, q1⟩ := q1
  cases r1
  obtain ⟨its, r, pl, hz⟩ := I1.tuple hq
  refine call_set_tupI ns (I1.ok.hd hc) pl (by simpa using RZ.intsAre_vals r) (by unfold scanBound; omega) fun h' tk c hS hc' hk => ?_
  refine PyProof.Rows.args_nil ?_
  obtain ⟨o, es, ep, t, ho, hex, hd, _, nd, hmem, hsz, hf, hn, _⟩ := hS
  have I2 : Inv X pins σ H1 { s1 with heap := h', toks := tk } := I1.kept hk
  have elen : es.size = (dedupI ns).length := by
    have := dedupI_len nd (is := ns) fun k => by rw [← hmem k]; simp
    rw [List.length_map, Array.length_toList] at this
    exact this
  exact call_len_set ho hex hd hf (by rw [hn]; omega) ⟨.int es.size, H1, I2.tok _, ⟨_, rfl⟩, by rw [elen]; exact q1⟩
end
section
variable {ι Z : Type} {m : Type → Type} [Eff m Z] {c : Ct ι Z} {g : Cg Z}
def lenSetD (d : D) : Res D := match d with
  | .tup xs => match intsD xs with
    | some is => if is.length ≤ 4000 then .ok (.int ((dedupI is).length : Nat)) else .bad
    | none => .bad
  | _ => .bad
theorem ev_lenSetT {a : Expr} {fa : Sto → m D} {p p2 q pos : Pos} (hp : ∀ i t, PE (c.X i) a t → PE (c.X i) (.Call (.Name "len" p) [.Call (.Name "set" p2) [a] [] q] [] pos) (tLenSetT c.K t)) (ha : EvB c a fa) :
    EvE c (.Call (.Name "len" p) [.Call (.Name "set" p2) [a] [] q] [] pos) (e1 lenSetD fa) := by
  obtain ⟨t, pa, k⟩ := ha
  refine ⟨_, fun i => hp i t (pa i), fun H0 F0 ρ F σ H z Q S rz h => ?_⟩
  refine k _ _ _ _ _ _ _ _ S rz (h.bind.imp fun d z1 h v H1 F1 G1 rz1 r => ?_)
  have S1 := S.grow G1
  have h := h.lift
  cases d with
  | tup xs =>
    obtain ⟨l, vs, rfl, q, f, r⟩ := r.tup S1.fh
    cases e : intsD xs with
    | none => simp only [lenSetD, e] at h; exact h.elim
    | some is =>
      have ev := intsD_rep e r
      subst ev
      by_cases hl : is.length ≤ 4000
      · simp only [lenSetD, e, if_pos hl] at h
        exact ⟨l, is, rfl, SqT.of q, hl, h _ H1 F1 G1 rz1 rfl⟩
      · simp only [lenSetD, e, if_neg hl] at h
        exact h.elim
  | _ => exact h.elim
end
end Vf

namespace Vf
open PySem L2
/-! ### draws: the row's state -/
structure Dr where
  pos : Int
  mix : Int
  rest : Int
def DrawM (α : Type) : Type := Dr → RZ Dr α
instance : Eff DrawM Dr where
  pure a := fun z => .ok a z
  bind x f := fun z => (x z).bind fun a z' => f a z'
  lift r := fun z => r.at z
  run x z := x z
  run_pure _ _ := rfl
  run_bind _ _ _ := rfl
  run_lift _ _ := rfl
  nox x := fun z => (x z).nox
  run_nox _ _ := rfl
/-- the next draw -/
def takenS (ns : List Int) (z : Dr) (n : Int) : Int × Dr :=
  if 0 < z.rest then (z.rest.fmod n, { z with rest := z.rest.fdiv n })
  else if (ns.length : Int) < z.pos + 1 then
    ((((z.mix * 48271 + 11).fmod 2147483647).fdiv 7).fmod n, { z with pos := z.pos + 1, mix := (z.mix * 48271 + 11).fmod 2147483647 })
  else
    ((ns.getD z.pos.toNat 0).fmod n, { pos := z.pos + 1, mix := (z.mix * 48271 + ns.getD z.pos.toNat 0 + 11).fmod 2147483647, rest := if (10 : Int) ^ 18 ≤ ns.getD z.pos.toNat 0 then (ns.getD z.pos.toNat 0).fdiv n else z.rest })
theorem takenS_range (ns : List Int) (z : Dr) {n : Int} (h : 0 < n) : 0 ≤ (takenS ns z n).1 ∧ (takenS ns z n).1 < n := by
  unfold takenS
  split
  · exact ⟨Int.fmod_nonneg_of_pos _ h, Int.fmod_lt_of_pos _ h⟩
  · split
    · exact ⟨Int.fmod_nonneg_of_pos _ h, Int.fmod_lt_of_pos _ h⟩
    · exact ⟨Int.fmod_nonneg_of_pos _ h, Int.fmod_lt_of_pos _ h⟩
/-- the row's list, and the script's object where it is tracked -/
def rowAt (row script : Addr) (so : Option HO) (z : Dr) (H : Hp) : Prop :=
  0 ≤ z.pos ∧ H row = some (.lst [.ref script, .int z.pos, .int z.mix, .int z.rest]) ∧ ∀ o, so = some o → H script = some o
def drawG (row script : Addr) (so : Option HO) : Cg Dr where
  own a := a = row ∨ (a = script ∧ so ≠ none)
  rep := rowAt row script so
  loc z H H' h k := ⟨h.1, (k row (.inl rfl)).trans h.2.1, fun o e => (k script (.inr ⟨rfl, by rw [e]; exact fun z => nomatch z⟩)).trans (h.2.2 o e)⟩
def m_taken (ns : List Int) (row : Addr) (a b : D) : DrawM D := match a, b with
  | .ref r, .int n => fun z => if r = row ∧ 0 < n ∧ n < 1073741824 then .ok (.int (takenS ns z n).1) (takenS ns z n).2 else .bad
  | _, _ => fun _ => .bad
/-- what is asked and promised of the row's reader -/
def spTaken (K : PySem.W.Frag) (row script : Addr) (so : Option HO) (ns : List Int) : Sp := fun vs H Q _ => ∃ (n : Int) (z : Dr), vs = [.ref row, .int n] ∧ 0 < n ∧ n < 1073741824 ∧ (so ≠ none → row ≠ script) ∧ rowAt row script so z H ∧ (∀ H : Hp, (∀ o, so = some o → H script = some o) → SqL K H script (ns.map V.int)) ∧
  ∀ H', rowAt row script so (takenS ns z n).2 H' → (∀ a, a ≠ row → H' a = H a) → Q (.int (takenS ns z n).1) H'
theorem spTaken_of {K : PySem.W.Frag} {row script : Addr} {so : Option HO} {ns : List Int} {xr : Exc → Value → Option Addr → Hp → Hp → Prop} (ne : so ≠ none → row ≠ script) (hs : ∀ H : Hp, (∀ o, so = some o → H script = some o) → SqL K H script (ns.map V.int))
    (vs : List V) (H : Hp) (Q : VK) (E : XK) (h : spZ (drawG row script so) xr 2 (l2 (m_taken ns row)) vs H Q E) : spTaken K row script so ns vs H Q E := by
  obtain ⟨F, ds, z, hl, sb, go, gf, r, rz, q⟩ := h
  match ds, hl with
  | [a, b], _ =>
    obtain ⟨v, r1, rfl, ra, w, r2, rfl, rb, rn⟩ := r
    have rn : r2 = [] := rn
    subst rn
    cases a with
    | ref p =>
      cases b with
      | int n =>
        have ra : v = .ref p := ra
        have rb : w = .int n := rb
        subst ra rb
        by_cases c : p = row ∧ 0 < n ∧ n < 1073741824
        · have e : Eff.run (l2 (m_taken ns row) [.ref p, .int n]) z = .ok (.int (takenS ns z n).1) (takenS ns z n).2 := by
            exact if_pos c
          rw [e] at q
          obtain ⟨rfl, h1, h2⟩ := c
          refine ⟨n, z, rfl, h1, h2, ne, rz, hs, fun H' rz' k => ?_⟩
          have nF : F p = none := gf p (.inl rfl)
          refine q _ H' F ⟨fun a o no e => ?_, fun a e => ?_, Same.refl _, fun a o e => ?_, fun a _ => rfl⟩ rz' rfl
          · rw [k a fun z => no (.inl z)]; exact e
          · by_cases z : a = p
            · subst z; rw [rz'.2.1]; exact fun z => nomatch z
            · rw [k a z]; exact e
          · rw [k a (ne_of_none e nF)]; exact sb _ _ e
        · have e : Eff.run (l2 (m_taken ns row) [.ref p, .int n]) z = .bad := by
            exact if_neg c
          rw [e] at q
          exact q.elim
      | _ => exact q.elim
    | _ => exact q.elim
end Vf

namespace Vf
open PySem L2
section
variable {ι Z : Type} {m : Type → Type} [Eff m Z] {c : Ct ι Z} {g : Cg Z}
/-! ### several names at once -/
def ModeR (o : Bool) (H F' H' : Hp) (d : D) (v : V) : Prop := if o = true then ∃ a, v = .ref a ∧ H a = none ∧ F' a = none ∧ OwnAt F' H' d a else RepF F' d v
def slM (o : Bool) (d : D) : Sl := if o then .ow d else .sh d
def EvM (c : Ct ι Z) (o : Bool) (e : Expr) (f : Sto → m D) : Prop := ∃ t : TE, (∀ i, PE (c.X i) e t) ∧ ∀ (H0 F0 : Hp) (ρ : Sto) (F : Hp) (σ : L2.St) (H : Hp) (z : Z) (Q : VK), Sta c.g H0 F0 ρ F σ H → c.g.rep z H →
  OkP c H0 F0 (Eff.run (f ρ) z) (fun d z' => ∀ v H' F', Grow c.g H F H' F' → c.g.rep z' H' → ModeR o H F' H' d v → Q v H') → t σ H Q
theorem EvE.md {e : Expr} {f : Sto → m D} (h : EvE c e f) : EvM c false e f := by
  obtain ⟨t, p, k⟩ := h
  exact ⟨t, p, fun H0 F0 ρ F σ H z Q S rz h => k H0 F0 ρ F σ H z Q S rz (h.imp fun d z' h v H' F' G rz' r => h v H' F' G rz' (by unfold ModeR; rw [if_neg Bool.false_ne_true]; exact r))⟩
theorem EvO.md {e : Expr} {f : Sto → m D} (h : EvO c e f) : EvM c true e f := by
  obtain ⟨t, p, k⟩ := h
  exact ⟨t, p, fun H0 F0 ρ F σ H z Q S rz h => k H0 F0 ρ F σ H z Q S rz (h.imp fun d z' h a H' F' G rz' n nf r => h _ H' F' G rz' (by unfold ModeR; rw [if_pos rfl]; exact ⟨a, rfl, n, nf, r⟩))⟩
theorem Sta.setM {H0 F0 F H H1 F1 : Hp} {ρ : Sto} {σ : L2.St} {d : D} {v : V} {o : Bool} (S : Sta g H0 F0 ρ F σ H) (G : Grow g H F H1 F1) (r : ModeR o H F1 H1 d v) (i : Nat) : Sta g H0 F0 (ρ.set i (slM o d)) F1 (σ.set i (some v)) H1 := by
  unfold ModeR at r
  cases o with
  | true =>
    rw [if_pos rfl] at r
    obtain ⟨a, rfl, n, nf, r⟩ := r
    exact S.setO G n nf r i
  | false =>
    rw [if_neg Bool.false_ne_true] at r
    exact (S.grow G).set i r
def sPar2 (i j : Nat) (o1 o2 : Bool) (a b : Sto → m D) : Sto → m Fl := fun ρ => do
  let x ← a ρ
  let y ← b ρ
  pure (.nx ((ρ.set i (slM o1 x)).set j (slM o2 y)))
theorem evs_par2 (i j : Nat) {o1 o2 : Bool} {st : Stmt} {a b : Expr} {fa fb : Sto → m D} (ha : EvM c o1 a fa) (hb : EvM c o2 b fb) (hs1 : ∀ i, starEach [a, b] (c.X i).env = (false, eval a (c.X i).env) :: starEach [b] (c.X i).env) (hs2 : ∀ i, starEach [b] (c.X i).env = (false, eval b (c.X i).env) :: starEach [] (c.X i).env)
    (hp : ∀ k t, PA (c.X k) [a, b] t → PS (c.X k) st (tPar i j t)) : EvS c st (sPar2 i j o1 o2 fa fb) := by
  obtain ⟨ta, pa, ka⟩ := ha
  obtain ⟨tb, pb, kb⟩ := hb
  refine ⟨_, fun k => hp k _ (pa_cons (pa k) (pa_cons (pb k) pa_nil (hs2 k)) (hs1 k)), fun H0 F0 ρ F σ H z Dn S rz h => ?_⟩
  refine ka _ _ _ _ _ _ _ _ S rz (h.bind.imp fun x z1 h v H1 F1 G1 rz1 r1 => ?_)
  refine kb _ _ _ _ _ _ _ _ (S.grow G1) rz1 (h.bind.imp fun y z2 h w H2 F2 G2 rz2 r2 => ?_)
  exact ⟨v, w, rfl, (OkP.pure (c := c) h) _ H2 F2 ((S.setM G1 r1 i).setM G2 r2 j) rz2 (G1.ff.trans G2.ff)⟩
def sPar3 (i j l : Nat) (o1 o2 o3 : Bool) (a b d : Sto → m D) : Sto → m Fl := fun ρ => do
  let x ← a ρ
  let y ← b ρ
  let w ← d ρ
  pure (.nx (((ρ.set i (slM o1 x)).set j (slM o2 y)).set l (slM o3 w)))
theorem evs_par3 (i j l : Nat) {o1 o2 o3 : Bool} {st : Stmt} {a b d : Expr} {fa fb fd : Sto → m D} (ha : EvM c o1 a fa) (hb : EvM c o2 b fb) (hd : EvM c o3 d fd) (hs1 : ∀ i, starEach [a, b, d] (c.X i).env = (false, eval a (c.X i).env) :: starEach [b, d] (c.X i).env) (hs2 : ∀ i, starEach [b, d] (c.X i).env = (false, eval b (c.X i).env) :: starEach [d] (c.X i).env)
    (hs3 : ∀ i, starEach [d] (c.X i).env = (false, eval d (c.X i).env) :: starEach [] (c.X i).env)
    (hp : ∀ k t, PA (c.X k) [a, b, d] t → PS (c.X k) st (tPar3 i j l t)) : EvS c st (sPar3 i j l o1 o2 o3 fa fb fd) := by
  obtain ⟨ta, pa, ka⟩ := ha
  obtain ⟨tb, pb, kb⟩ := hb
  obtain ⟨td, pd, kd⟩ := hd
  refine ⟨_, fun k => hp k _ (pa_cons (pa k) (pa_cons (pb k) (pa_cons (pd k) pa_nil (hs3 k)) (hs2 k)) (hs1 k)), fun H0 F0 ρ F σ H z Dn S rz h => ?_⟩
  refine ka _ _ _ _ _ _ _ _ S rz (h.bind.imp fun x z1 h v H1 F1 G1 rz1 r1 => ?_)
  refine kb _ _ _ _ _ _ _ _ (S.grow G1) rz1 (h.bind.imp fun y z2 h w H2 F2 G2 rz2 r2 => ?_)
  refine kd _ _ _ _ _ _ _ _ ((S.grow G1).grow G2) rz2 (h.bind.imp fun u z3 h x3 H3 F3 G3 rz3 r3 => ?_)
  exact ⟨v, w, x3, rfl, (OkP.pure (c := c) h) _ H3 F3 (((S.setM G1 r1 i).setM G2 r2 j).setM G3 r3 l) rz3 (G1.ff.trans (G2.ff.trans G3.ff))⟩

/-! ### lending an own thing while an expression is reckoned -/
mutual
def D.imm : D → Bool
  | .non => true
  | .bl _ => true
  | .int _ => true
  | .str _ => true
  | .ref _ => true
  | .ty _ => true
  | .tup xs => D.imms xs
  | .lst _ => false
  | .dk _ => false
  | .dt _ => false
def D.imms : List D → Bool
  | [] => true
  | d :: ds => d.imm && D.imms ds
end
mutual
theorem RepF.immut {F F' : Hp} (h : ∀ a xs, F a = some (.tup xs) → F' a = some (.tup xs)) : ∀ (d : D) (v : V), d.imm = true → RepF F d v → RepF F' d v
  | .non, _, _, r => r
  | .bl _, _, _, r => r
  | .int _, _, _, r => r
  | .str _, _, _, r => r
  | .ref _, _, _, r => r
  | .ty _, _, _, r => r
  | .tup xs, _, p, ⟨a, vs, e, q, r⟩ => ⟨a, vs, e, h _ _ q, RepFs.immut h xs vs p r⟩
  | .lst _, _, p, _ => by cases p
  | .dk _, _, p, _ => by cases p
  | .dt _, _, p, _ => by cases p
theorem RepFs.immut {F F' : Hp} (h : ∀ a xs, F a = some (.tup xs) → F' a = some (.tup xs)) : ∀ (ds : List D) (vs : List V), D.imms ds = true → RepFs F ds vs → RepFs F' ds vs
  | [], _, _, r => r
  | d :: ds, _, p, ⟨v, r, e, hd, t⟩ => by
    have p' : (d.imm && D.imms ds) = true := p
    rw [Bool.and_eq_true] at p'
    exact ⟨v, r, e, RepF.immut h d v p'.1 hd, RepFs.immut h ds r p'.2 t⟩
end
theorem Sta.frzAt {H0 F0 F H : Hp} {ρ : Sto} {σ : L2.St} {i : Nat} (S : Sta g H0 F0 ρ F σ H) : ∃ F', Sta g H0 F0 (frz1 i ρ) F' σ H ∧ (F' = F ∨ ∃ a o, F' = upd F a o ∧ F a = none ∧ H a ≠ none ∧ ∀ xs, o ≠ .tup xs) := by
  by_cases hq : ∃ d, ρ[i]? = some (.ow d)
  · obtain ⟨d, q⟩ := hq
    obtain ⟨o, eo, a, ea, n0, nf, no, r⟩ := S.sl i _ q
    subst ea
    obtain ⟨F1, S1, _⟩ := S.frz i
    -- the very frozen heap of Sta.frz
    have key : ∃ F', Sta g H0 F0 (frz1 i ρ) F' σ H ∧ ∃ ob, F' = upd F a ob ∧ H a = some ob := by
      obtain ⟨ob, eh, rf⟩ := Vf.freeze S.fh nf r
      have sub : Sub F (upd F a ob) := fun b u e => by rw [upd_ne (ne_of_none e nf)]; exact e
      have hil : i < ρ.length := (List.getElem?_eq_some_iff.mp q).1
      have ef : frz1 i ρ = ρ.set i (.sh d) := by unfold frz1; rw [q]
      refine ⟨upd F a ob, ?_, ob, rfl, eh⟩
      rw [ef]
      refine ⟨S.gr.freeze n0 nf eh, S.go, fun b hb => ?_, by rw [List.length_set]; exact S.len, fun j s e => ?_, fun j k d1 e1 b h1 h2 h3 h4 => ?_⟩
      · have : b ≠ a := fun e => no (e ▸ hb)
        rw [upd_ne this]; exact S.gf b hb
      · by_cases z : i = j
        · subst z
          rw [List.getElem?_set_self hil] at e
          cases e
          exact ⟨_, eo, _, rfl, rf⟩
        · rw [List.getElem?_set_ne z] at e
          obtain ⟨o', eo', k⟩ := S.sl j s e
          refine ⟨o', eo', ?_⟩
          cases s with
          | no => trivial
          | sh d1 => obtain ⟨v, ev, rv⟩ := k; exact ⟨v, ev, RepF.mono sub _ _ rv⟩
          | ow d1 =>
            obtain ⟨b, eb, m0, mf, mo, rb⟩ := k
            have hne : b ≠ a := fun e' => z (S.inj i j d d1 a q e eo (by rw [eo', eb, e']))
            refine ⟨b, eb, m0, by rw [upd_ne hne]; exact mf, mo, ?_⟩
            cases d1 with
            | lst ds => obtain ⟨vs, e1, r1⟩ := rb; exact ⟨vs, e1, RepFs.mono sub _ _ r1⟩
            | dk kvs => obtain ⟨vs, e1, r1⟩ := rb; exact ⟨vs, e1, RepK.mono sub _ _ r1⟩
            | dt kvs => obtain ⟨vs, e1, r1⟩ := rb; exact ⟨vs, e1, RepT.mono sub _ _ r1⟩
            | _ => exact rb.elim
      · by_cases z1 : i = j
        · subst z1; rw [List.getElem?_set_self hil] at h1; cases h1
        · by_cases z2 : i = k
          · subst z2; rw [List.getElem?_set_self hil] at h2; cases h2
          · rw [List.getElem?_set_ne z1] at h1
            rw [List.getElem?_set_ne z2] at h2
            exact S.inj j k d1 e1 b h1 h2 h3 h4
    obtain ⟨F', S', ob, e', eh⟩ := key
    refine ⟨F', S', .inr ⟨a, ob, e', nf, some_ne eh, fun xs z => ?_⟩⟩
    subst z
    cases d with
    | lst ds => obtain ⟨vs, e1, r1⟩ := r; rw [eh] at e1; cases e1
    | dk kvs => obtain ⟨vs, e1, r1⟩ := r; rw [eh] at e1; cases e1
    | dt kvs => obtain ⟨vs, e1, r1⟩ := r; rw [eh] at e1; cases e1
    | _ => exact r.elim
  · refine ⟨F, ?_, .inl rfl⟩
    unfold frz1
    split
    · rename_i d q; exact absurd ⟨d, q⟩ hq
    · exact S
/-- an expression reckoned while slot i is lent: its answer holds no list, no dict -/
def eLend (i : Nat) (f : Sto → m D) : Sto → m D := fun ρ => do
  let d ← f (frz1 i ρ)
  if d.imm then pure d else bad
theorem ev_lend (i : Nat) {e : Expr} {f : Sto → m D} (h : EvE c e f) : EvE c e (eLend i f) := by
  obtain ⟨t, p, k⟩ := h
  refine ⟨t, p, fun H0 F0 ρ F σ H z Q S rz h => ?_⟩
  obtain ⟨F1, S1, hF⟩ := S.frzAt (i := i)
  refine k H0 F0 _ F1 σ H z Q S1 rz (h.bind.imp fun d z1 h v H2 F2 G2 rz2 r => ?_)
  by_cases hi : d.imm = true
  · rw [if_pos hi] at h
    have h := (OkP.pure (c := c) h)
    rcases hF with e | ⟨a, o, e, nf, ha, nt⟩
    · subst e
      exact h v H2 F2 G2 rz2 r
    · subst e
      have ea : F2 a = some o := G2.ff _ _ upd_same
      refine h v H2 (fun b => if b = a then none else F2 b) ⟨G2.hh, G2.os, fun b u q => ?_, fun b u q => ?_, fun b q => ?_⟩ rz2 (RepF.immut (fun b xs q => ?_) d v hi r)
      · have hne : b ≠ a := ne_of_none q nf
        show (if b = a then none else F2 b) = some u
        rw [if_neg hne]
        exact G2.ff _ _ (by rw [upd_ne hne]; exact q)
      · have q : (if b = a then none else F2 b) = some u := q
        split at q
        · cases q
        · exact G2.fh _ _ q
      · show (if b = a then none else F2 b) = F b
        split
        · rename_i z; rw [z, nf]
        · rename_i z; rw [G2.nw b q, upd_ne z]
      · show (if b = a then none else F2 b) = some (.tup xs)
        have hne : b ≠ a := fun z => by
          subst z
          rw [ea] at q
          exact nt xs (Option.some.inj q)
        rw [if_neg hne]; exact q
  · rw [if_neg hi] at h
    exact h.badF.elim
end
section
open PySem.Spec PyProof.Rows
variable {P : Program} {w : World} {K : PySem.W.Frag} {mg : Str → Option Value} {base : Heap} {Z : Type} {m : Type → Type} [Eff m Z]
/-- a def as it stands behind the top, with its place in the module -/
structure Stands (K : PySem.W.Frag) (mg : Str → Option Value) (x : Str) (st : Stmt) (ps : List Str) : Prop where
  it : ∃ f fd, Fun K x x st f fd ∧ mg x = some (.ref f) ∧ Binds K fd ps []
theorem kept_by {x : Str} {st : Stmt} {N ps : List Str} {k n : Nat} {g : Cg Z} {xr : Exc → Value → Option Addr → Hp → Hp → Prop} {mf : List D → m D} {h : Sto → m Fl} (F : Stands K mg x st ps) (S : FnScope N ps (defScope st)) (hn : ps.length = n) (hf : ∀ ds, ds.length = n → mf ds = runB N.length h ds)
    (body : ∀ (f : Addr) (cdv : Value) (A : Around) (outer : List Env) (s : Shared) (H : Hp) (E : XK) (hr : Room k (A.deeper (envOfC x (defScope st) s.heap.objs.size f cdv))), EvSs (bodyCt P w K mg base N x st f cdv A outer s H E xr g k hr S.nd) (defBody st) h) :
    Kept P w K mg base (L2.CX P w) x (k + 1) n (spZ g xr n mf) := by
  obtain ⟨f, fd, F, hm, hb⟩ := F.it
  exact kept_of F hm hb S hn hf fun cdv A outer s H E hr => body f cdv A outer s H E hr
/-- nothing is promised -/
theorem kept_bad {x : Str} {st : Stmt} {ps : List Str} {CX : CXT} {k n : Nat} {g : Cg Z} {xr : Exc → Value → Option Addr → Hp → Hp → Prop} {mf : List D → m D} (F : Stands K mg x st ps) (hn : ps.length = n) (hb : ∀ ds, mf ds = bad) : Kept P w K mg base CX x k n (spZ g xr n mf) := by
  obtain ⟨f, fd, F, hm, hbd⟩ := F.it
  have no : ∀ vs H Q E, ¬ spZ g xr n mf vs H Q E := fun vs H Q E h => by
    obtain ⟨F', ds, z, _, _, _, _, _, _, q⟩ := h
    rw [hb ds] at q
    unfold bad at q
    rw [Eff.run_lift] at q
    exact q
  exact ⟨f, fd, ps, hn, ⟨fun vs H Q E h => absurd h (no vs H Q E), fun A outer s H args us vs Q E _ _ _ _ h => absurd h (no vs H Q E)⟩, hm, F.kp, hbd⟩
theorem Kept.mono {x : Str} {CX : CXT} {j k n : Nat} {sp : Sp} (h : Kept P w K mg base CX x j n sp) (l : j ≤ k) : Kept P w K mg base CX x k n sp := by
  obtain ⟨f, fd, ps, a, b, c⟩ := h.it
  exact ⟨f, fd, ps, a, b.mono l, c⟩
end
end Vf

namespace Vf
open PySem L2
/-! ### short words for printed proofs -/
section
variable {ι Z : Type} {m : Type → Type} [Eff m Z] {c : Ct ι Z} {g : Cg Z}
def lenSD (d : D) : Res D := match d with
  | .tup xs => .ok (.int xs.length)
  | .lst xs => .ok (.int xs.length)
  | _ => .bad
def lk {α : Type} (n : Nat) (f : List D → m α) : List D → m α := fun ds => if ds.length = n then f ds else bad
theorem lk_len {α : Type} (n : Nat) (f : List D → m α) (ds : List D) (h : ds.length ≠ n) : lk n f ds = bad := if_neg h
theorem lk_on {α : Type} (n : Nat) (f : List D → m α) (ds : List D) (h : ds.length = n) : lk n f ds = f ds := if_pos h
abbrev LocN (c : Ct ι Z) (x : Str) : Prop := ∀ j, (c.X j).env.scope.names.lookup x = some .local
theorem x_v (i : Nat) {x : Str} {pos : Pos} (hN : ∀ j, (c.X j).N[i]? = some x := by exact fun _ => rfl) (hv : ∀ j, (c.X j).env.scope.names.lookup x = some .local := by exact fun _ => rfl) (hd : (x == ("__debug__" : Str)) = false := by decide) (hcd : (x == ("__classdict__" : Str)) = false := by decide) :
    EvE (m := m) c (.Name x pos) (eVar i) := ev_var i hN (fun j => .inl (hv j)) hd hcd
theorem x_vc (i : Nat) {x : Str} {pos : Pos} (hN : ∀ j, (c.X j).N[i]? = some x := by exact fun _ => rfl) (hv : ∀ j, (c.X j).env.scope.names.lookup x = some .cell := by exact fun _ => rfl) (hd : (x == ("__debug__" : Str)) = false := by decide) (hcd : (x == ("__classdict__" : Str)) = false := by decide) :
    EvE (m := m) c (.Name x pos) (eVar i) := ev_var i hN (fun j => .inr (.inl (hv j))) hd hcd
theorem x_vf (i : Nat) {x : Str} {pos : Pos} (hN : ∀ j, (c.X j).N[i]? = some x := by exact fun _ => rfl) (hv : ∀ j, Vis (c.X j).env.scope x := by first | exact fun _ => .inr (.inl rfl) | exact fun _ => .inr (.inr rfl)) (hd : (x == ("__debug__" : Str)) = false := by decide) (hcd : (x == ("__classdict__" : Str)) = false := by decide) :
    EvE (m := m) c (.Name x pos) (eVar i) := ev_var i hN hv hd hcd
theorem b_v (i : Nat) {x : Str} {pos : Pos} (hN : ∀ j, (c.X j).N[i]? = some x := by exact fun _ => rfl) (hv : ∀ j, (c.X j).env.scope.names.lookup x = some .local := by exact fun _ => rfl) (hd : (x == ("__debug__" : Str)) = false := by decide) (hcd : (x == ("__classdict__" : Str)) = false := by decide) :
    EvB (m := m) c (.Name x pos) (eVarB i) := eb_var i hN (fun j => .inl (hv j)) hd hcd
theorem b_vc (i : Nat) {x : Str} {pos : Pos} (hN : ∀ j, (c.X j).N[i]? = some x := by exact fun _ => rfl) (hv : ∀ j, (c.X j).env.scope.names.lookup x = some .cell := by exact fun _ => rfl) (hd : (x == ("__debug__" : Str)) = false := by decide) (hcd : (x == ("__classdict__" : Str)) = false := by decide) :
    EvB (m := m) c (.Name x pos) (eVarB i) := eb_var i hN (fun j => .inr (.inl (hv j))) hd hcd
theorem b_vf (i : Nat) {x : Str} {pos : Pos} (hN : ∀ j, (c.X j).N[i]? = some x := by exact fun _ => rfl) (hv : ∀ j, Vis (c.X j).env.scope x := by first | exact fun _ => .inr (.inl rfl) | exact fun _ => .inr (.inr rfl)) (hd : (x == ("__debug__" : Str)) = false := by decide) (hcd : (x == ("__classdict__" : Str)) = false := by decide) :
    EvB (m := m) c (.Name x pos) (eVarB i) := eb_var i hN hv hd hcd
theorem x_g {x : Str} {i : Int} {pos : Pos} (hm : ∃ t, c.mg x = some (.int i t)) (hg : ∀ j, Gl (c.X j) x := by exact fun _ => rfl) (hd : (x == ("__debug__" : Str)) = false := by decide) : EvE (m := m) c (.Name x pos) (eC (.int i)) := let ⟨_, h⟩ := hm; ev_gint hg h hd
/-- operators -/
theorem x_add {a b : Expr} {fa fb : Sto → m D} {pos : Pos} (ha : EvB c a fa) (hb : EvB c b fb) : EvE c (.BinOp a .Add b pos) (e2 addD fa fb) :=
  ev_bin (r := rAddU c.K) (fun i => by have := op_addU (X := c.X i); rwa [c.hK i] at this) op2_add ha hb
theorem x_sub {a b : Expr} {fa fb : Sto → m D} {pos : Pos} (ha : EvB c a fa) (hb : EvB c b fb) : EvE c (.BinOp a .Sub b pos) (e2 subD fa fb) := ev_bin (fun i => op_sub) op2_sub ha hb
theorem x_mul {a b : Expr} {fa fb : Sto → m D} {pos : Pos} (ha : EvB c a fa) (hb : EvB c b fb) : EvE c (.BinOp a .Mult b pos) (e2 mulD fa fb) :=
  ev_bin (r := rMulU c.K) (fun i => by have := op_mulU (X := c.X i); rwa [c.hK i] at this) op2_mul ha hb
theorem x_mod {a b : Expr} {fa fb : Sto → m D} {pos : Pos} (ha : EvB c a fa) (hb : EvB c b fb) : EvE c (.BinOp a .Mod b pos) (e2 modD fa fb) := ev_bin (fun i => op_modN) op2_mod ha hb
theorem x_fdiv {a b : Expr} {fa fb : Sto → m D} {pos : Pos} (ha : EvB c a fa) (hb : EvB c b fb) : EvE c (.BinOp a .FloorDiv b pos) (e2 fdivD fa fb) := ev_bin (fun i => op_fdivN) op2_fdiv ha hb
theorem x_pow {a b : Expr} {fa fb : Sto → m D} {pos : Pos} (ha : EvB c a fa) (hb : EvB c b fb) : EvE c (.BinOp a .Pow b pos) (e2 powD fa fb) := ev_bin (fun i => op_pow) op2_pow ha hb
theorem x_eq {a b : Expr} {fa fb : Sto → m D} {pos : Pos} (ha : EvB c a fa) (hb : EvB c b fb) : EvE c (.Compare a [.Eq] [b] pos) (e2 eqD fa fb) :=
  ev_cmp (r := rEqD c.K) (fun i => by have := op_eqD (X := c.X i) (c.room i).units; rwa [c.hK i] at this) (nomark _) op2_eq ha hb
theorem t_eq {a b : Expr} {fa fb : Sto → m D} {pos : Pos} (ha : EvB c a fa) (hb : EvB c b fb) : EvT c (.Compare a [.Eq] [b] pos) (tV (e2 eqD fa fb)) :=
  evt_cmp (r := rEqD c.K) (fun i => by have := op_eqD (X := c.X i) (c.room i).units; rwa [c.hK i] at this) (nomark _) op2_eq ha hb
theorem x_ne {a b : Expr} {fa fb : Sto → m D} {pos : Pos} (ha : EvB c a fa) (hb : EvB c b fb) : EvE c (.Compare a [.NotEq] [b] pos) (e2 neD fa fb) :=
  ev_cmp (r := rNeD c.K) (fun i => by have := op_neD (X := c.X i) (c.room i).units; rwa [c.hK i] at this) (nomark _) op2_ne ha hb
theorem t_ne {a b : Expr} {fa fb : Sto → m D} {pos : Pos} (ha : EvB c a fa) (hb : EvB c b fb) : EvT c (.Compare a [.NotEq] [b] pos) (tV (e2 neD fa fb)) :=
  evt_cmp (r := rNeD c.K) (fun i => by have := op_neD (X := c.X i) (c.room i).units; rwa [c.hK i] at this) (nomark _) op2_ne ha hb
theorem x_lt {a b : Expr} {fa fb : Sto → m D} {pos : Pos} (ha : EvB c a fa) (hb : EvB c b fb) : EvE c (.Compare a [.Lt] [b] pos) (e2 ltD fa fb) := ev_cmp (fun i => op_lt) (nomark _) op2_lt ha hb
theorem t_lt {a b : Expr} {fa fb : Sto → m D} {pos : Pos} (ha : EvB c a fa) (hb : EvB c b fb) : EvT c (.Compare a [.Lt] [b] pos) (tV (e2 ltD fa fb)) := evt_cmp (fun i => op_lt) (nomark _) op2_lt ha hb
theorem x_le {a b : Expr} {fa fb : Sto → m D} {pos : Pos} (ha : EvB c a fa) (hb : EvB c b fb) : EvE c (.Compare a [.LtE] [b] pos) (e2 leD fa fb) := ev_cmp (fun i => op_le) (nomark _) op2_le ha hb
theorem t_le {a b : Expr} {fa fb : Sto → m D} {pos : Pos} (ha : EvB c a fa) (hb : EvB c b fb) : EvT c (.Compare a [.LtE] [b] pos) (tV (e2 leD fa fb)) := evt_cmp (fun i => op_le) (nomark _) op2_le ha hb
theorem x_gt {a b : Expr} {fa fb : Sto → m D} {pos : Pos} (ha : EvB c a fa) (hb : EvB c b fb) : EvE c (.Compare a [.Gt] [b] pos) (e2 gtD fa fb) := ev_cmp (fun i => op_gt) (nomark _) op2_gt ha hb
theorem t_gt {a b : Expr} {fa fb : Sto → m D} {pos : Pos} (ha : EvB c a fa) (hb : EvB c b fb) : EvT c (.Compare a [.Gt] [b] pos) (tV (e2 gtD fa fb)) := evt_cmp (fun i => op_gt) (nomark _) op2_gt ha hb
theorem x_ge {a b : Expr} {fa fb : Sto → m D} {pos : Pos} (ha : EvB c a fa) (hb : EvB c b fb) : EvE c (.Compare a [.GtE] [b] pos) (e2 geD fa fb) := ev_cmp (fun i => op_ge) (nomark _) op2_ge ha hb
theorem t_ge {a b : Expr} {fa fb : Sto → m D} {pos : Pos} (ha : EvB c a fa) (hb : EvB c b fb) : EvT c (.Compare a [.GtE] [b] pos) (tV (e2 geD fa fb)) := evt_cmp (fun i => op_ge) (nomark _) op2_ge ha hb
theorem x_is {a b : Expr} {fa fb : Sto → m D} {pos : Pos} (ha : EvB c a fa) (hb : EvB c b fb) : EvE c (.Compare a [.Is] [b] pos) (e2 isD fa fb) := ev_cmp (fun i => op_isN) (nomark _) op2_is ha hb
theorem t_is {a b : Expr} {fa fb : Sto → m D} {pos : Pos} (ha : EvB c a fa) (hb : EvB c b fb) : EvT c (.Compare a [.Is] [b] pos) (tV (e2 isD fa fb)) := evt_cmp (fun i => op_isN) (nomark _) op2_is ha hb
theorem x_isnt {a b : Expr} {fa fb : Sto → m D} {pos : Pos} (ha : EvB c a fa) (hb : EvB c b fb) : EvE c (.Compare a [.IsNot] [b] pos) (e2 isntD fa fb) := ev_cmp (fun i => op_notN) (nomark _) op2_isnt ha hb
theorem t_isnt {a b : Expr} {fa fb : Sto → m D} {pos : Pos} (ha : EvB c a fa) (hb : EvB c b fb) : EvT c (.Compare a [.IsNot] [b] pos) (tV (e2 isntD fa fb)) := evt_cmp (fun i => op_notN) (nomark _) op2_isnt ha hb
theorem x_ltlt {a b d : Expr} {fa fb fd : Sto → m D} {pos : Pos} (ha : EvB c a fa) (hb : EvB c b fb) (hd : EvB c d fd) (hm : lastMarks [.Lt, .Lt] [b, d] = false := by with_unfolding_all rfl) : EvE c (.Compare a [.Lt, .Lt] [b, d] pos) (eChain ltD ltD fa fb fd) :=
  ev_chain (fun i => op_lt) (fun i => op_lt) op2_lt op2_lt (fun i ta tb td pa pb pd => pe_chain op_lt op_lt pa pb pd hm) ha hb hd
theorem x_ltle {a b d : Expr} {fa fb fd : Sto → m D} {pos : Pos} (ha : EvB c a fa) (hb : EvB c b fb) (hd : EvB c d fd) (hm : lastMarks [.Lt, .LtE] [b, d] = false := by with_unfolding_all rfl) : EvE c (.Compare a [.Lt, .LtE] [b, d] pos) (eChain ltD leD fa fb fd) :=
  ev_chain (fun i => op_lt) (fun i => op_le) op2_lt op2_le (fun i ta tb td pa pb pd => pe_chain op_lt op_le pa pb pd hm) ha hb hd
theorem x_lelt {a b d : Expr} {fa fb fd : Sto → m D} {pos : Pos} (ha : EvB c a fa) (hb : EvB c b fb) (hd : EvB c d fd) (hm : lastMarks [.LtE, .Lt] [b, d] = false := by with_unfolding_all rfl) : EvE c (.Compare a [.LtE, .Lt] [b, d] pos) (eChain leD ltD fa fb fd) :=
  ev_chain (fun i => op_le) (fun i => op_lt) op2_le op2_lt (fun i ta tb td pa pb pd => pe_chain op_le op_lt pa pb pd hm) ha hb hd
theorem x_lele {a b d : Expr} {fa fb fd : Sto → m D} {pos : Pos} (ha : EvB c a fa) (hb : EvB c b fb) (hd : EvB c d fd) (hm : lastMarks [.LtE, .LtE] [b, d] = false := by with_unfolding_all rfl) : EvE c (.Compare a [.LtE, .LtE] [b, d] pos) (eChain leD leD fa fb fd) :=
  ev_chain (fun i => op_le) (fun i => op_le) op2_le op2_le (fun i ta tb td pa pb pd => pe_chain op_le op_le pa pb pd hm) ha hb hd
theorem t_val {e : Expr} {f : Sto → m D} (h : EvE c e f) (he : ∀ i whole, isTrue e (c.X i).env whole = (do let v ← whole; standAt e.pos; holding [v] (truthy v)) := by exact fun _ _ => rfl) : EvT c e (tV f) := evt_val h he
theorem x_ix {a b : Expr} {fa fb : Sto → m D} {pos : Pos} (ha : EvB c a fa) (hb : EvB c b fb) (hs : PlainIx b := by exact fun _ _ => rfl) : EvE c (.Subscript a b pos) (e2 ixD fa fb) :=
  ev_ix (r := rIxU c.K) (fun i => by have := ix_U (X := c.X i) (by have := (c.room i).un; omega); rwa [c.hK i] at this) hs op2_ix ha hb
theorem e_cons {e : Expr} {es : List Expr} {f : Sto → m D} {fs : Sto → m (List D)} (ha : EvE c e f) (hr : EvAF c es fs) (hs : ∀ i, starEach (e :: es) (c.X i).env = (false, eval e (c.X i).env) :: starEach es (c.X i).env := by exact fun _ => rfl) : EvAF c (e :: es) (aCons f fs) := evaf_cons ha hr hs
theorem a_cons {e : Expr} {es : List Expr} {f : Sto → m D} {fs : Sto → m (List D)} (ha : EvB c e f) (hr : EvA c es fs) (hs : ∀ i, starEach (e :: es) (c.X i).env = (false, eval e (c.X i).env) :: starEach es (c.X i).env := by exact fun _ => rfl) : EvA c (e :: es) (aCons f fs) := eva_cons ha hr hs
theorem s_one {e : Expr} (h : ∀ i, starEach [e] (c.X i).env = (false, eval e (c.X i).env) :: starEach [] (c.X i).env) (p : Pos) : ∀ i, (backTo p (starEach ([] : List Expr) (c.X i).env)).any (·.1) = false := fun _ => rfl

theorem opN_lenS {K : PySem.W.Frag} : OpN g (fun xs H Q => (∃ p ys, xs = [.ref p] ∧ (SqL K H p ys ∨ SqT K H p ys) ∧ Q (.int ys.length) H)) (f1 lenSD) := opN_len
theorem x_isi {a b : Expr} {fa : Sto → m (List D)} {p pos : Pos} (hm : c.mg "isinstance" = none) (ha : EvA c [a, b] fa) (hg : ∀ i, Gl (c.X i) "isinstance" := by exact fun _ => rfl)
    (hs : ∀ i, starEach [a, b] (c.X i).env = (false, eval a (c.X i).env) :: starEach [b] (c.X i).env := by exact fun _ => rfl) (hp : ∀ i, (backTo pos (starEach [b] (c.X i).env)).any (·.1) = false := by exact fun _ => rfl) :
    EvE c (.Call (.Name "isinstance" p) [a, b] [] pos) (eN (f2 isiD) fa) :=
  ev_callV (r := rIsi c.K) (opN_isi) (fun i t pa => by
    have h := (c.hm i).symm ▸ hm
    have := pe_callB (p := p) (call_isi (X := c.X i)) (hg i) h (by decide +kernel) pa (by decide) (by decide) (hs i) (hp i)
    rwa [c.hK i] at this) ha
theorem x_len {a : Expr} {fa : Sto → m (List D)} {p pos : Pos} (hm : c.mg "len" = none) (ha : EvA c [a] fa) (hg : ∀ i, Gl (c.X i) "len" := by exact fun _ => rfl)
    (hs : ∀ i, starEach [a] (c.X i).env = (false, eval a (c.X i).env) :: starEach [] (c.X i).env := by exact fun _ => rfl) (hp : ∀ i, (backTo pos (starEach [] (c.X i).env)).any (·.1) = false := by exact fun _ => rfl) :
    EvE c (.Call (.Name "len" p) [a] [] pos) (eN (f1 lenSD) fa) :=
  ev_callV (r := fun xs H Q => (∃ p ys, xs = [.ref p] ∧ (SqL c.K H p ys ∨ SqT c.K H p ys) ∧ Q (.int ys.length) H)) (opN_lenS) (fun i t pa => by
    have h := (c.hm i).symm ▸ hm
    have := pe_callB (p := p) (call_len_seq (X := c.X i)) (hg i) h (PySem.boot_len) pa (by decide) (by decide) (hs i) (hp i)
    rwa [c.hK i] at this) ha
theorem x_max {a : Expr} {fa : Sto → m (List D)} {p pos : Pos} (hm : c.mg "max" = none) (ha : EvA c [a] fa) (hg : ∀ i, Gl (c.X i) "max" := by exact fun _ => rfl)
    (hs : ∀ i, starEach [a] (c.X i).env = (false, eval a (c.X i).env) :: starEach [] (c.X i).env := by exact fun _ => rfl) (hp : ∀ i, (backTo pos (starEach [] (c.X i).env)).any (·.1) = false := by exact fun _ => rfl) :
    EvE c (.Call (.Name "max" p) [a] [] pos) (eN (f1 maxD) fa) :=
  ev_callV (r := rMax c.K) (opN_max) (fun i t pa => by
    have h := (c.hm i).symm ▸ hm
    have := pe_callB (p := p) (cr_max (X := c.X i) (c.calm i)) (hg i) h (by decide +kernel) pa (by decide) (by decide) (hs i) (hp i)
    rwa [c.hK i] at this) ha
theorem x_sum {a : Expr} {fa : Sto → m (List D)} {p pos : Pos} (hm : c.mg "sum" = none) (ha : EvA c [a] fa) (hg : ∀ i, Gl (c.X i) "sum" := by exact fun _ => rfl)
    (hs : ∀ i, starEach [a] (c.X i).env = (false, eval a (c.X i).env) :: starEach [] (c.X i).env := by exact fun _ => rfl) (hp : ∀ i, (backTo pos (starEach [] (c.X i).env)).any (·.1) = false := by exact fun _ => rfl) :
    EvE c (.Call (.Name "sum" p) [a] [] pos) (eN (f1 sumD) fa) :=
  ev_callV (r := rSum c.K) (opN_sum) (fun i t pa => by
    have h := (c.hm i).symm ▸ hm
    have := pe_callB (p := p) (cr_sum (X := c.X i) (c.calm i)) (hg i) h (by decide +kernel) pa (by decide) (by decide) (hs i) (hp i)
    rwa [c.hK i] at this) ha
theorem x_int {a : Expr} {fa : Sto → m (List D)} {p pos : Pos} (hm : c.mg "int" = none) (ha : EvA c [a] fa) (hg : ∀ i, Gl (c.X i) "int" := by exact fun _ => rfl)
    (hs : ∀ i, starEach [a] (c.X i).env = (false, eval a (c.X i).env) :: starEach [] (c.X i).env := by exact fun _ => rfl) (hp : ∀ i, (backTo pos (starEach [] (c.X i).env)).any (·.1) = false := by exact fun _ => rfl) :
    EvE c (.Call (.Name "int" p) [a] [] pos) (eN (f1 intD) fa) :=
  ev_callV (opN_int) (fun i t p => pe_callTy (call_int1 (X := c.X i)) (hg i) (by rw [c.hm i]; exact hm) (by decide +kernel) p (by decide) (by decide) (hs i) (hp i)) ha
theorem x_tuple {a : Expr} {fa : Sto → m (List D)} {p pos : Pos} (hm : c.mg "tuple" = none) (ha : EvA c [a] fa) (hg : ∀ i, Gl (c.X i) "tuple" := by exact fun _ => rfl)
    (hs : ∀ i, starEach [a] (c.X i).env = (false, eval a (c.X i).env) :: starEach [] (c.X i).env := by exact fun _ => rfl) (hp : ∀ i, (backTo pos (starEach [] (c.X i).env)).any (·.1) = false := by exact fun _ => rfl) :
    EvE c (.Call (.Name "tuple" p) [a] [] pos) (eN (f1 tupleD) fa) :=
  ev_callV (r := fun xs H Q => ∃ p ys, xs = [.ref p] ∧ ((SqL c.K H p ys ∧ ∀ l, H l = none → Q (.ref l) (upd H l (.tup ys))) ∨ (SqT c.K H p ys ∧ Q (.ref p) H))) (opN_tuple) (fun i t pa => by
    have h := (c.hm i).symm ▸ hm
    have := pe_callTy (p := p) (call_tuple_of (X := c.X i)) (hg i) h (by decide +kernel) pa (by decide) (by decide) (hs i) (hp i)
    rwa [c.hK i] at this) ha
theorem x_list {a : Expr} {fa : Sto → m (List D)} {p pos : Pos} (hm : c.mg "list" = none) (ha : EvA c [a] fa) (hg : ∀ i, Gl (c.X i) "list" := by exact fun _ => rfl)
    (hs : ∀ i, starEach [a] (c.X i).env = (false, eval a (c.X i).env) :: starEach [] (c.X i).env := by exact fun _ => rfl) (hp : ∀ i, (backTo pos (starEach [] (c.X i).env)).any (·.1) = false := by exact fun _ => rfl) :
    EvO c (.Call (.Name "list" p) [a] [] pos) (eN (f1 listD) fa) :=
  eo_callV (r := fun xs H Q => ∃ p ys, xs = [.ref p] ∧ (SqL c.K H p ys ∨ SqT c.K H p ys) ∧ ∀ l, H l = none → Q (.ref l) (upd H l (.lst ys))) (opNO_list) (fun i t pa => by
    have h := (c.hm i).symm ▸ hm
    have := pe_callTy (p := p) (call_list_of (X := c.X i)) (hg i) h (by decide +kernel) pa (by decide) (by decide) (hs i) (hp i)
    rwa [c.hK i] at this) ha
theorem x_ty {x : Str} (t : Ty) {pos : Pos} (hm : c.mg x = none) (hv : bootBuiltins x = some (.type t.name) := by decide +kernel) (hg : ∀ j, Gl (c.X j) x := by exact fun _ => rfl) (hn : x ≠ "__name__" := by decide) (hd : (x == ("__debug__" : Str)) = false := by decide) : EvE (m := m) c (.Name x pos) (eC (.ty t)) := ev_ty hg hm hv hn hd
theorem x_lenSet {a : Expr} {fa : Sto → m D} {p p2 q pos : Pos} (hm : c.mg "len" = none) (hm2 : c.mg "set" = none) (ha : EvB c a fa) (hg : ∀ i, Gl (c.X i) "len" := by exact fun _ => rfl) (hg2 : ∀ i, Gl (c.X i) "set" := by exact fun _ => rfl)
    (na : ∀ i, starEach [a] (c.X i).env = (false, eval a (c.X i).env) :: starEach [] (c.X i).env := by exact fun _ => rfl) : EvE c (.Call (.Name "len" p) [.Call (.Name "set" p2) [a] [] q] [] pos) (e1 lenSetD fa) :=
  ev_lenSetT (fun i t pa => by
    have := pe_lenSetT (q := q) (pos := pos) (p := p) (p2 := p2) (hg i) (by rw [c.hm i]; exact hm) (hg2 i) (by rw [c.hm i]; exact hm2) pa (c.calm i) (na i)
    rwa [c.hK i] at this) ha
theorem x_listRange {a : Expr} {f : Sto → m D} {p p2 q pos : Pos} (hm : c.mg "list" = none) (hm2 : c.mg "range" = none) (ha : EvE c a f) (hg : ∀ i, Gl (c.X i) "list" := by exact fun _ => rfl) (hg2 : ∀ i, Gl (c.X i) "range" := by exact fun _ => rfl)
    (na : ∀ i, starEach [a] (c.X i).env = (false, eval a (c.X i).env) :: starEach [] (c.X i).env := by exact fun _ => rfl) : EvO c (.Call (.Name "list" p) [.Call (.Name "range" p2) [a] [] q] [] pos) (eLR f) :=
  eo_listRange (fun i t pa => pe_listRg (c.calm i) (hg i) (by rw [c.hm i]; exact hm) (prg_1 (hg2 i) (by rw [c.hm i]; exact hm2) pa (na i)) rfl) ha
theorem i_range1 {tg a : Expr} {f : Sto → m (List D)} {p pos : Pos} (hm : c.mg "range" = none) (ha : EvA c [a] f) (hg : ∀ i, Gl (c.X i) "range" := by exact fun _ => rfl) (hs : ∀ i, starEach [a] (c.X i).env = [(false, eval a (c.X i).env)] := by exact fun _ => rfl) :
    EvI c tg (.Call (.Name "range" p) [a] [] pos) (iR rng1 f) := evi_range1 hg hm ha hs
theorem i_range2 {tg a b : Expr} {f : Sto → m (List D)} {p pos : Pos} (hm : c.mg "range" = none) (ha : EvA c [a, b] f) (hg : ∀ i, Gl (c.X i) "range" := by exact fun _ => rfl) (hs : ∀ i, starEach [a, b] (c.X i).env = [(false, eval a (c.X i).env), (false, eval b (c.X i).env)] := by exact fun _ => rfl)
    (hs2 : ∀ i, starEach [b] (c.X i).env = [(false, eval b (c.X i).env)] := by exact fun _ => rfl) : EvI c tg (.Call (.Name "range" p) [a, b] [] pos) (iR rng2 f) := evi_range2 hg hm ha hs hs2
/-- calls of the program's defs -/
theorem x_call {x : Str} {k n : Nat} {f : List D → Res D} {e : Expr} {es : List Expr} {fa : Sto → m (List D)} {p pos : Pos} (hk : Kept c.P c.w c.K c.mg c.base c.CX x k n (spZ g0 c.xr n (lk n f))) (ha : EvAF c (e :: es) fa) (hr : k ≤ c.k := by exact Nat.le_of_ble_eq_true rfl) (hg : ∀ i, Gl (c.X i) x := by exact fun _ => rfl) (hdb : (x == ("__debug__" : Str)) = false := by decide)
    (he : ∀ i, starEach (e :: es) (c.X i).env = (false, eval e (c.X i).env) :: starEach es (c.X i).env := by exact fun _ => rfl) (hpl : ∀ i, (backTo pos (starEach es (c.X i).env)).any (·.1) = false := by exact fun _ => rfl) : EvE c (.Call (.Name x p) (e :: es) [] pos) (eN (lk n f) fa) :=
  ev_call0 hk hr (lk_len n f) (fun i f' fd ps sp t F hr hm hk hb hx pa => pe_call F hr (hg i) hm hk hb .nil hx pa hdb (he i) (hpl i)) ha
theorem x_callZ {x : Str} {k n : Nat} {f : List D → m D} {e : Expr} {es : List Expr} {fa : Sto → m (List D)} {p pos : Pos} (hk : Kept c.P c.w c.K c.mg c.base c.CX x k n (spZ c.g c.xr n (lk n f))) (ha : EvAF c (e :: es) fa) (hr : k ≤ c.k := by exact Nat.le_of_ble_eq_true rfl) (hg : ∀ i, Gl (c.X i) x := by exact fun _ => rfl) (hdb : (x == ("__debug__" : Str)) = false := by decide)
    (he : ∀ i, starEach (e :: es) (c.X i).env = (false, eval e (c.X i).env) :: starEach es (c.X i).env := by exact fun _ => rfl) (hpl : ∀ i, (backTo pos (starEach es (c.X i).env)).any (·.1) = false := by exact fun _ => rfl) : EvE c (.Call (.Name x p) (e :: es) [] pos) (eCall (lk n f) fa) :=
  ev_callZ hk hr hg (lk_len n f) hdb (fun i f' fd ps sp t F hr hm hk hb hx pa => pe_call F hr (hg i) hm hk hb .nil hx pa hdb (he i) (hpl i)) ha
/-- comprehensions -/
def blkB (N : List Str) (sc scope : Scope) (own : List (Str × Nat)) : Bool :=
  decide (scope.kind = .function) && scope.names.all (fun y => scope.names.lookup y.1 == some y.2) && own.all (fun p => N[p.2]? == some p.1) &&
    scope.names.all (fun y => match y.2 with
      | .free => sc.names.lookup y.1 == some .cell || sc.names.lookup y.1 == some .free
      | .local => own.any (fun p => p.1 == y.1) || !N.any (fun x => x == y.1)
      | .cell => own.any (fun p => p.1 == y.1) || !N.any (fun x => x == y.1)
      | _ => true)
theorem blk_of {N : List Str} {sc scope : Scope} {own : List (Str × Nat)} (h : blkB N sc scope own = true) : BlkOk N sc scope own := by
  unfold blkB at h
  rw [Bool.and_eq_true, Bool.and_eq_true, Bool.and_eq_true] at h
  obtain ⟨⟨⟨h1, h2⟩, h3⟩, h4⟩ := h
  rw [List.all_eq_true] at h2 h3 h4
  refine ⟨of_decide_eq_true h1, fun y hy => eq_of_beq (h2 y hy), fun p hp => eq_of_beq (h3 p hp), fun y hy e => ?_, fun y hy e => ?_⟩
  · have := h4 y hy
    rw [e] at this
    have := this
    rw [Bool.or_eq_true] at this
    exact this.imp eq_of_beq eq_of_beq
  · have h := h4 y hy
    have h : (own.any (fun p => p.1 == y.1) || !N.any (fun x => x == y.1)) = true := by
      rcases e with e | e <;> (rw [e] at h; exact h)
    rw [Bool.or_eq_true] at h
    rcases h with h | h
    · left
      obtain ⟨p, hp, q⟩ := List.any_eq_true.mp h
      exact List.mem_map.mpr ⟨p, hp, eq_of_beq q⟩
    · right
      intro hm
      rw [Bool.not_eq_true'] at h
      have : N.any (fun x => x == y.1) = true := List.any_eq_true.mpr ⟨_, hm, beq_self_eq_true _⟩
      rw [this] at h
      cases h
theorem o_lc {tg iter elt : Expr} {ifs : List Expr} {scope : Scope} (own : List (Str × Nat)) {pos : Pos} {it : Sto → m (List D)} {us : List Nat} {fg : D → Sto → Option Sto} {ft : Sto → m Bool} {fe : Sto → m D}
    (hi : EvIB c tg iter it) (hg : EvG (c.blk scope) tg us fg) (ht : EvTs (c.blk scope) ifs ft) (he : EvE (c.blk scope) elt fe) (ok : ∀ i, BlkOk (c.X i).N (c.X i).env.scope scope own := by exact fun _ => blk_of (by rfl)) (hu : ∀ i ∈ us, i ∈ own.map (·.2) := by decide)
    (hs : ∀ i x, foldedSetIterable iter (c.X i).env x = pure x := by exact fun _ _ => rfl) : EvO c (.ListComp elt [⟨tg, iter, ifs, 0⟩] scope pos) (eLc it fg (own.map (·.2)) ft fe) := eo_lc hi ok hg ht he hu hs
theorem g_v (i : Nat) {x : Str} {pos : Pos} (hi : ∀ j, (c.X j).N[i]? = some x := by exact fun _ => rfl) (hx : ∀ j, (c.X j).env.scope.names.lookup x = some .local := by exact fun _ => rfl) : EvG c (.Name x pos) [i] (gN i) := evg_name i hi (fun j => .inl (hx j)) fun j => .inr (hx j)
theorem g_vc (i : Nat) {x : Str} {pos : Pos} (hi : ∀ j, (c.X j).N[i]? = some x := by exact fun _ => rfl) (hx : ∀ j, (c.X j).env.scope.names.lookup x = some .cell := by exact fun _ => rfl) (hf : ∀ j, (c.X j).fn x = true := by exact fun _ => rfl) : EvG c (.Name x pos) [i] (gN i) := evg_name i hi (fun j => .inr (hx j)) fun j => .inl (hf j)
/-- statements -/
theorem s_set (i : Nat) {x : Str} {e : Expr} {fe : Sto → m D} {pos pos' : Pos} (he : EvE c e fe) (hi : ∀ j, (c.X j).N[i]? = some x := by exact fun _ => rfl) (hx : ∀ j, (c.X j).env.scope.names.lookup x = some .local := by exact fun _ => rfl)
    (hs : ∀ j, swapsWith e (some (.Name x pos')) pos.line (c.X j).env = pure false := by exact fun _ => rfl) : EvS c (.Assign [.Name x pos'] e pos) (sAsg fe (gN i)) := evs_set i hi (fun j => .inl (hx j)) (fun j => .inr (hx j)) he hs
theorem s_setC (i : Nat) {x : Str} {e : Expr} {fe : Sto → m D} {pos pos' : Pos} (he : EvE c e fe) (hi : ∀ j, (c.X j).N[i]? = some x := by exact fun _ => rfl) (hx : ∀ j, (c.X j).env.scope.names.lookup x = some .cell := by exact fun _ => rfl) (hf : ∀ j, (c.X j).fn x = true := by exact fun _ => rfl)
    (hs : ∀ j, swapsWith e (some (.Name x pos')) pos.line (c.X j).env = pure false := by exact fun _ => rfl) : EvS c (.Assign [.Name x pos'] e pos) (sAsg fe (gN i)) := evs_set i hi (fun j => .inr (hx j)) (fun j => .inl (hf j)) he hs
theorem s_own (i : Nat) {x : Str} {e : Expr} {fe : Sto → m D} {pos pos' : Pos} (he : EvO c e fe) (hi : ∀ j, (c.X j).N[i]? = some x := by exact fun _ => rfl) (hx : ∀ j, (c.X j).env.scope.names.lookup x = some .local := by exact fun _ => rfl)
    (hs : ∀ j, swapsWith e (some (.Name x pos')) pos.line (c.X j).env = pure false := by exact fun _ => rfl) : EvS c (.Assign [.Name x pos'] e pos) (sOwn i fe) := evs_own i hi (fun j => .inl (hx j)) (fun j => .inr (hx j)) he hs
theorem s_ownC (i : Nat) {x : Str} {e : Expr} {fe : Sto → m D} {pos pos' : Pos} (he : EvO c e fe) (hi : ∀ j, (c.X j).N[i]? = some x := by exact fun _ => rfl) (hx : ∀ j, (c.X j).env.scope.names.lookup x = some .cell := by exact fun _ => rfl) (hf : ∀ j, (c.X j).fn x = true := by exact fun _ => rfl)
    (hs : ∀ j, swapsWith e (some (.Name x pos')) pos.line (c.X j).env = pure false := by exact fun _ => rfl) : EvS c (.Assign [.Name x pos'] e pos) (sOwn i fe) := evs_own i hi (fun j => .inr (hx j)) (fun j => .inl (hf j)) he hs
theorem s_setLc (i : Nat) {y : Str} {py : Pos} {tg iter elt : Expr} {ifs : List Expr} {scope : Scope} (own : List (Str × Nat)) {pos spos : Pos} {it : Sto → m (List D)} {us : List Nat} {fg : D → Sto → Option Sto} {ft : Sto → m Bool} {fe : Sto → m D}
    (hi : EvIB c tg iter it) (hg : EvG (c.blk scope) tg us fg) (ht : EvTs (c.blk scope) ifs ft) (he : EvE (c.blk scope) elt fe) (hy : ∀ j, (c.X j).N[i]? = some y := by exact fun _ => rfl) (hyl : ∀ j, (c.X j).env.scope.names.lookup y = some .local := by exact fun _ => rfl)
    (hsw : ∀ j, swapsWith (.ListComp elt [⟨tg, iter, ifs, 0⟩] scope pos) (some (.Name y py)) spos.line (c.X j).env = pure true := by exact fun _ => rfl) (ok : ∀ i, BlkOk (c.X i).N (c.X i).env.scope scope own := by exact fun _ => blk_of (by rfl)) (hu : ∀ i ∈ us, i ∈ own.map (·.2) := by decide)
    (hs : ∀ i x, foldedSetIterable iter (c.X i).env x = pure x := by exact fun _ _ => rfl) : EvS c (.Assign [.Name y py] (.ListComp elt [⟨tg, iter, ifs, 0⟩] scope pos) spos) (sAsg (eLc it fg (own.map (·.2)) ft fe) (gN i)) := evs_setOf (ps_lc_all hy hyl hsw hi ok hg ht he hu hs)
theorem s_ownLc (i : Nat) {y : Str} {py : Pos} {tg iter elt : Expr} {ifs : List Expr} {scope : Scope} (own : List (Str × Nat)) {pos spos : Pos} {it : Sto → m (List D)} {us : List Nat} {fg : D → Sto → Option Sto} {ft : Sto → m Bool} {fe : Sto → m D}
    (hi : EvIB c tg iter it) (hg : EvG (c.blk scope) tg us fg) (ht : EvTs (c.blk scope) ifs ft) (he : EvE (c.blk scope) elt fe) (hy : ∀ j, (c.X j).N[i]? = some y := by exact fun _ => rfl) (hyl : ∀ j, (c.X j).env.scope.names.lookup y = some .local := by exact fun _ => rfl)
    (hsw : ∀ j, swapsWith (.ListComp elt [⟨tg, iter, ifs, 0⟩] scope pos) (some (.Name y py)) spos.line (c.X j).env = pure true := by exact fun _ => rfl) (ok : ∀ i, BlkOk (c.X i).N (c.X i).env.scope scope own := by exact fun _ => blk_of (by rfl)) (hu : ∀ i ∈ us, i ∈ own.map (·.2) := by decide)
    (hs : ∀ i x, foldedSetIterable iter (c.X i).env x = pure x := by exact fun _ _ => rfl) : EvS c (.Assign [.Name y py] (.ListComp elt [⟨tg, iter, ifs, 0⟩] scope pos) spos) (sOwn i (eLc it fg (own.map (·.2)) ft fe)) := evs_ownOf (ps_lc_all hy hyl hsw hi ok hg ht he hu hs)
abbrev Own (c : Ct ι Z) : Prop := ∀ i, PassesOwn (model (c.X i).prog (c.X i).w) (c.X i).A (c.X i).env (c.X i).xe
theorem s_for {tg iter : Expr} {body : List Stmt} {it : Sto → m (List D)} {us : List Nat} {fg : D → Sto → Option Sto} {fb : Sto → m Fl} {pos : Pos} (hp : Own c) (hi : EvI c tg iter it) (hg : EvG c tg us fg) (hb : EvSs c body fb) (hs : ∀ i x, foldedSetIterable iter (c.X i).env x = pure x := by exact fun _ _ => rfl) : EvS c (.For tg iter body [] pos) (sFor it fg fb) := evs_for hp hi hg hb hs
theorem s_app (i : Nat) {x : Str} {e : Expr} {fe : Sto → m D} {px apos cpos pos : Pos} (he : EvE c e fe) (hN : ∀ j, (c.X j).N[i]? = some x := by exact fun _ => rfl) (hv : ∀ j, (c.X j).env.scope.names.lookup x = some .local := by exact fun _ => rfl) (hd : (x == ("__debug__" : Str)) = false := by decide) (hcd : (x == ("__classdict__" : Str)) = false := by decide)
    (hs1 : ∀ j, starEach [e] (c.X j).env = (false, eval e (c.X j).env) :: starEach [] (c.X j).env := by exact fun _ => rfl) (hsw : ∀ j, swapsWith (.Call (.Attribute (.Name x px) "append" apos) [e] [] cpos) none pos.line (c.X j).env = pure false := by exact fun _ => rfl)
    (hbase : ∀ j, attributeBase (.Name x px) "append" (c.X j).env (eval (.Name x px) (c.X j).env) = eval (.Name x px) (c.X j).env := by exact fun _ => rfl)
    (hfew : ∀ j, ((backTo cpos (starEach [e] (c.X j).env)).all (fun x => !x.1) && (backToKw cpos (keywordEach [] (c.X j).env)).all (fun x => x.1.isSome) && decide ([e].length + ([] : List Keyword).length + (if ([] : List Keyword).isEmpty then 0 else 1) < 30)) = true := by exact fun _ => rfl)
    (hline : (apos.endLine == cpos.line) = true := by rfl) : EvS c (.Expr (.Call (.Attribute (.Name x px) "append" apos) [e] [] cpos) pos) (sApp i fe) :=
  evs_app i hN (fun j => .inl (hv j)) hd hcd (fun j to t po pa => by
    have := ps_expr (pos := pos) (pe_bm (cpos := cpos) (apos := apos) PySem.F.plainAttrs_list PySem.F.slot_list_append PySem.F.type_list_append mt_append po pa (hbase j) (hfew j) hline (hs1 j) rfl) (hsw j)
    rwa [c.hK j] at this) hs1 he
theorem s_setD (i : Nat) {x : Str} {e k : Expr} {fe fk : Sto → m D} {px tpos pos : Pos} (he : EvE c e fe) (hk : EvE c k fk) (hN : ∀ j, (c.X j).N[i]? = some x := by exact fun _ => rfl) (hv : ∀ j, (c.X j).env.scope.names.lookup x = some .local := by exact fun _ => rfl) (hd : (x == ("__debug__" : Str)) = false := by decide) (hcd : (x == ("__classdict__" : Str)) = false := by decide)
    (hs : ∀ j, swapsWith e (some (.Subscript (.Name x px) k tpos)) pos.line (c.X j).env = pure false := by exact fun _ => rfl) : EvS c (.Assign [.Subscript (.Name x px) k tpos] e pos) (sSetD i fk fe) :=
  evs_setD i hN (fun j => .inl (hv j)) hd hcd (fun j te to tk pe po pk => ps_dput (by have := (c.room j).un; omega) po pk pe (hs j)) he hk
theorem s_iadd (i : Nat) {x : Str} {e : Expr} {fe : Sto → m D} {px pos : Pos} (he : EvE c e fe) (hN : ∀ j, (c.X j).N[i]? = some x := by exact fun _ => rfl) (hx : ∀ j, (c.X j).env.scope.names.lookup x = some .local := by exact fun _ => rfl) : EvS c (.AugAssign (.Name x px) .Add e pos) (sAug i addI fe) :=
  evs_aug i hN (fun j => .inl (hx j)) (fun j => .inr (hx j)) (fun j => ip_add) op2_iadd he
theorem s_isub (i : Nat) {x : Str} {e : Expr} {fe : Sto → m D} {px pos : Pos} (he : EvE c e fe) (hN : ∀ j, (c.X j).N[i]? = some x := by exact fun _ => rfl) (hx : ∀ j, (c.X j).env.scope.names.lookup x = some .local := by exact fun _ => rfl) : EvS c (.AugAssign (.Name x px) .Sub e pos) (sAug i subD fe) :=
  evs_aug i hN (fun j => .inl (hx j)) (fun j => .inr (hx j)) (fun j => ip_sub) op2_isub he
theorem s_par2 (i j : Nat) {o1 o2 : Bool} {x y : Str} {a b : Expr} {fa fb : Sto → m D} {px py pt pos : Pos} {kt k2 pt2} (ha : EvM c o1 a fa) (hb : EvM c o2 b fb) (hi : ∀ k, (c.X k).N[i]? = some x := by exact fun _ => rfl) (hj : ∀ k, (c.X k).N[j]? = some y := by exact fun _ => rfl) (hij : i ≠ j := by decide)
    (hx : ∀ k, (c.X k).env.scope.names.lookup x = some .local := by exact fun _ => rfl) (hy : ∀ k, (c.X k).env.scope.names.lookup y = some .local := by exact fun _ => rfl)
    (hw : ∀ k, swappedStores [.Tuple [.Name x px, .Name y py] kt pt] (.Tuple [a, b] k2 pt2) (c.X k).env = pure (some [x, y]) := by exact fun _ => rfl) (hs : ∀ k, swapsWithSole [.Tuple [.Name x px, .Name y py] kt pt] (.Tuple [a, b] k2 pt2) pos.line (c.X k).env = pure false := by exact fun _ => rfl)
    (hs1 : ∀ i, starEach [a, b] (c.X i).env = (false, eval a (c.X i).env) :: starEach [b] (c.X i).env := by exact fun _ => rfl) (hs2 : ∀ i, starEach [b] (c.X i).env = (false, eval b (c.X i).env) :: starEach [] (c.X i).env := by exact fun _ => rfl) :
    EvS c (.Assign [.Tuple [.Name x px, .Name y py] kt pt] (.Tuple [a, b] k2 pt2) pos) (sPar2 i j o1 o2 fa fb) :=
  evs_par2 i j ha hb hs1 hs2 fun k t pa => ps_par (c.calm k) (c.nd k) (hi k) (hj k) hij (hx k) (hy k) pa (hw k) (hs k)
theorem s_par3 (i j l : Nat) {o1 o2 o3 : Bool} {x y z : Str} {a b d : Expr} {fa fb fd : Sto → m D} {px py pz pt pos : Pos} {kt k2 pt2} (ha : EvM c o1 a fa) (hb : EvM c o2 b fb) (hd : EvM c o3 d fd) (hi : ∀ k, (c.X k).N[i]? = some x := by exact fun _ => rfl) (hj : ∀ k, (c.X k).N[j]? = some y := by exact fun _ => rfl) (hl : ∀ k, (c.X k).N[l]? = some z := by exact fun _ => rfl)
    (hij : i ≠ j := by decide) (hil : i ≠ l := by decide) (hjl : j ≠ l := by decide)
    (hx : ∀ k, (c.X k).env.scope.names.lookup x = some .local := by exact fun _ => rfl) (hy : ∀ k, (c.X k).env.scope.names.lookup y = some .local := by exact fun _ => rfl) (hz : ∀ k, (c.X k).env.scope.names.lookup z = some .local := by exact fun _ => rfl)
    (hw : ∀ k, swappedStores [.Tuple [.Name x px, .Name y py, .Name z pz] kt pt] (.Tuple [a, b, d] k2 pt2) (c.X k).env = pure (some [x, y, z]) := by exact fun _ => rfl) (hs : ∀ k, swapsWithSole [.Tuple [.Name x px, .Name y py, .Name z pz] kt pt] (.Tuple [a, b, d] k2 pt2) pos.line (c.X k).env = pure false := by exact fun _ => rfl)
    (hs1 : ∀ i, starEach [a, b, d] (c.X i).env = (false, eval a (c.X i).env) :: starEach [b, d] (c.X i).env := by exact fun _ => rfl) (hs2 : ∀ i, starEach [b, d] (c.X i).env = (false, eval b (c.X i).env) :: starEach [d] (c.X i).env := by exact fun _ => rfl) (hs3 : ∀ i, starEach [d] (c.X i).env = (false, eval d (c.X i).env) :: starEach [] (c.X i).env := by exact fun _ => rfl) :
    EvS c (.Assign [.Tuple [.Name x px, .Name y py, .Name z pz] kt pt] (.Tuple [a, b, d] k2 pt2) pos) (sPar3 i j l o1 o2 o3 fa fb fd) :=
  evs_par3 i j l ha hb hd hs1 hs2 hs3 fun k t pa => ps_par3 (c.calm k) (c.nd k) (hi k) (hj k) (hl k) hij hil hjl (hx k) (hy k) (hz k) pa (hw k) (hs k)

theorem gs_cons {e : Expr} {es : List Expr} {f : D → Sto → Option Sto} {fs : List D → Sto → Option Sto} {u1 u2 : List Nat} (ha : EvG c e u1 f) (hr : EvGs c es u2 fs) (hs : ∀ i, (assignEach (e :: es) (c.X i).env).map (·.2) = assign e (c.X i).env :: (assignEach es (c.X i).env).map (·.2) := by exact fun _ => rfl) : EvGs c (e :: es) (u1 ++ u2) (gsCons f fs) := evgs_cons ha hr hs
def sExpr (e : Sto → m D) : Sto → m Fl := fun ρ => do
  let _ ← e ρ
  pure (.nx ρ)
theorem s_expr {e : Expr} {fe : Sto → m D} {pos : Pos} (he : EvE c e fe) (hs : ∀ i, swapsWith e none pos.line (c.X i).env = pure false := by exact fun _ => rfl) : EvS c (.Expr e pos) (sExpr fe) := by
  obtain ⟨t, p, k⟩ := he
  refine ⟨_, fun i => ps_expr (p i) (hs i), fun H0 F0 ρ F σ H z Dn S rz h => ?_⟩
  exact k _ _ _ _ _ _ _ _ S rz (h.bind.imp fun d z1 h v H1 F1 G1 rz1 r => (OkP.pure (c := c) h) σ H1 F1 (S.grow G1) rz1 G1.ff)
theorem g_tup {es : List Expr} {k : Nat} {pos : Pos} {n : Nat} {fs : List D → Sto → Option Sto} {us : List Nat} (h : EvGs c es us fs) (hn : ∀ i, (assignEach es (c.X i).env).length = n := by exact fun _ => rfl) (hst : ∀ i, (assignEach es (c.X i).env).findIdx? (·.1) = none := by exact fun _ => rfl) : EvG c (.Tuple es k pos) us (gT n fs) := evg_tup h hn hst
theorem s_asg {tg e : Expr} {fe : Sto → m D} {us : List Nat} {fg : D → Sto → Option Sto} {pos : Pos} (he : EvE c e fe) (hg : EvG c tg us fg) (hs : ∀ i, swapsWithSole [tg] e pos.line (c.X i).env = pure false := by exact fun _ => rfl) (hw : ∀ i, swappedStores [tg] e (c.X i).env = pure none := by exact fun _ => rfl)
    (h1 : ∀ i, (assignEach [tg] (c.X i).env).map (·.2) = [assign tg (c.X i).env] := by exact fun _ => rfl) : EvS c (.Assign [tg] e pos) (sAsg fe fg) := evs_asg he hg hs hw h1
end
end Vf

namespace Vf
open PySem L2
/-! ### the row's reader -/
section
variable {K : PySem.W.Frag}
abbrev rInt1 : List V → Hp → VK → Prop := fun xs H Q => (∃ i, xs = [.int i] ∧ Q (.int i) H) ∨ ∃ k, xs = [.bl k] ∧ Q (.int (if k then 1 else 0)) H
abbrev rMulI : R2 := rI CMul fun i j => .int (i * j)
abbrev rAddI : R2 := rI0 fun i j => .int (i + j)
abbrev rSubI : R2 := rI0 fun i j => .int (i - j)
abbrev rModI : R2 := rI (fun _ j => j ≠ 0) fun i j => .int (i.fmod j)
abbrev rDivI : R2 := rI CDivN fun i j => .int (i.fdiv j)
abbrev rPowI : R2 := rI CPow fun i j => .int (i ^ j.toNat)
abbrev rGtI : R2 := rI0 fun i j => .bl (decide (j < i))
abbrev rGeI : R2 := rI0 fun i j => .bl (decide (j ≤ i))
abbrev rLenS (K : PySem.W.Frag) : List V → Hp → VK → Prop := fun xs H Q => ∃ p ys, xs = [.ref p] ∧ (SqL K H p ys ∨ SqT K H p ys) ∧ Q (.int ys.length) H
abbrev tRow (K : PySem.W.Frag) (i : Int) : TE := tOp (rIx K) (tVar 0) (tC (.int i))
abbrev tI1 (t : TE) : TE := tCB rInt1 (tCons t tNil)
abbrev tSetRow (i : Int) (t : TE) : TS := tAsg t (gSub (tVar 0) (tC (.int i)) rSetL)
def tTaken (K : PySem.W.Frag) : TS :=
  tSeq (tIfS (tTest (tOp rGtI (tRow K 3) (tC (.int 0))))
      (tSeq (tAsg (tOp rModI (tI1 (tRow K 3)) (tVar 1)) (gName 2)) (tSeq (tSetRow 3 (tOp rDivI (tRow K 3) (tVar 1))) (tRet (tVar 2))))
      tNext)
  (tSeq (tSetRow 1 (tOp rAddI (tRow K 1) (tC (.int 1))))
  (tSeq (tIfS (tTest (tOp rGtI (tRow K 1) (tCB (rLenS K) (tCons (tRow K 0) tNil))))
      (tSeq (tSetRow 2 (tOp rModI (tI1 (tOp rAddI (tOp rMulI (tRow K 2) (tC (.int 48271))) (tC (.int 11)))) (tC (.int 2147483647))))
        (tRet (tOp rModI (tI1 (tOp rDivI (tRow K 2) (tC (.int 7)))) (tVar 1))))
      tNext)
  (tSeq (tAsg (tOp (rIx K) (tRow K 0) (tOp rSubI (tRow K 1) (tC (.int 1)))) (gName 3))
  (tSeq (tSetRow 2 (tOp rModI (tI1 (tOp rAddI (tOp rAddI (tOp rMulI (tRow K 2) (tC (.int 48271))) (tVar 3)) (tC (.int 11)))) (tC (.int 2147483647))))
  (tSeq (tIfS (tTest (tOp rGeI (tVar 3) (tOp rPowI (tC (.int 10)) (tC (.int 18)))))
      (tSetRow 3 (tOp rDivI (tVar 3) (tVar 1)))
      tNext)
  (tRet (tOp rModI (tI1 (tVar 3)) (tVar 1))))))))
theorem row_at {H : Hp} {row : Addr} {xs : List V} {σ : L2.St} {i : Int} {x : V} {Q : VK} (e0 : σ[0]? = some (some (.ref row))) (e : H row = some (.lst xs)) (ei : L2.atI xs i = some x) (q : Q x H) : tRow K i σ H Q :=
  ⟨_, e0, .inl ⟨row, xs, i, x, rfl, rfl, SqL.of e, ei, q⟩⟩
theorem row_set {H1 : Hp} {row : Addr} {xs : List V} {σ : L2.St} {i : Int} {j : Nat} {x : V} {Q : L2.St → Hp → Prop} (e0 : σ[0]? = some (some (.ref row))) (e : H1 row = some (.lst xs)) (ej : ixN xs.length i = some j) (q : Q σ (upd H1 row (.lst (xs.set j x)))) :
    gSub (tVar 0) (tC (.int i)) rSetL x σ H1 Q := ⟨_, e0, row, xs, i, j, rfl, rfl, e, ej, q⟩
theorem upd_twice {H : Hp} {a : Addr} {o o' : HO} : upd (upd H a o) a o' = upd H a o' := by
  funext b
  by_cases z : b = a
  · subst z; rw [upd_same, upd_same]
  · rw [upd_ne z, upd_ne z, upd_ne z]
set_option maxHeartbeats 4000000 in
theorem taken_read {row script : Addr} {so : Option HO} {ns : List Int} {vs : List V} {H : Hp} {Q : VK} {E : XK} (h : spTaken K row script so ns vs H Q E) :
    tTaken K { nx := fun _ H' => Q .non H', rt := Q } (L2.start ["_law_row", "_law_many", "_law_found", "_law_cell"] vs) H := by
  obtain ⟨n, z, rfl, h0, h1, ne, ⟨hp, hrow, hso⟩, hs, q⟩ := h
  have n0 : n ≠ 0 := by omega
  have m0 : (2147483647 : Int) ≠ 0 := by decide
  have dv : CDivN z.rest n := ⟨n0, by omega⟩
  show tTaken K { nx := fun _ H' => Q .non H', rt := Q } [some (.ref row), some (.int n), none, none] H
  have oth : ∀ (o : HO) (a : Addr), a ≠ row → upd H row o a = H a := fun o a e => upd_ne e
  have fin : ∀ (z' : Dr), 0 ≤ z'.pos → rowAt row script so z' (upd H row (.lst [.ref script, .int z'.pos, .int z'.mix, .int z'.rest])) := fun z' hz => ⟨hz, upd_same, fun o e => by rw [upd_ne fun e3 => ne (by rw [e]; exact fun z => nomatch z) e3.symm]; exact hso o e⟩
  refine row_at rfl hrow rfl ⟨_, _, rfl, rfl, _, rfl, ?_⟩
  refine ite2 (fun c => ?_) (fun c => ?_)
  · have c : 0 < z.rest := of_decide_eq_true c
    refine row_at rfl hrow rfl (.inl ⟨_, rfl, ⟨_, rfl, _, _, rfl, rfl, n0, ?_⟩⟩)
    refine row_at rfl hrow rfl ⟨_, rfl, _, _, rfl, rfl, dv, ?_⟩
    refine row_set (i := 3) (j := 3) rfl hrow rfl ?_
    refine ⟨_, rfl, ?_⟩
    have e : takenS ns z n = (z.rest.fmod n, { z with rest := z.rest.fdiv n }) := by unfold takenS; rw [if_pos c]
    rw [e] at q
    exact q _ (fin ⟨z.pos, z.mix, z.rest.fdiv n⟩ hp) (oth _)
  · have c : ¬ 0 < z.rest := fun h => c (decide_eq_true h)
    refine row_at rfl hrow rfl ⟨_, _, rfl, rfl, ?_⟩
    refine row_set (i := 1) (j := 1) rfl hrow rfl ?_
    have sc : ∀ (o : HO), SqL K (upd H row o) script (ns.map V.int) := fun o => hs _ fun o2 e2 => by rw [upd_ne fun e => ne (by rw [e2]; exact fun z => nomatch z) e.symm]; exact hso o2 e2
    refine row_at rfl upd_same rfl (row_at rfl upd_same rfl ⟨_, _, rfl, .inl (sc _), _, _, rfl, rfl, _, rfl, ?_⟩)
    rw [List.length_map]
    refine ite2 (fun c2 => ?_) (fun c2 => ?_)
    · have c2 : (ns.length : Int) < z.pos + 1 := of_decide_eq_true c2
      refine row_at rfl upd_same rfl ⟨_, _, rfl, rfl, .inr ⟨by decide, by decide⟩, _, _, rfl, rfl, .inl ⟨_, rfl, _, _, rfl, rfl, m0, ?_⟩⟩
      refine row_set (i := 2) (j := 2) rfl upd_same rfl ?_
      rw [upd_twice]
      refine row_at rfl upd_same rfl ⟨_, _, rfl, rfl, ⟨by decide, by decide⟩, .inl ⟨_, rfl, _, rfl, _, _, rfl, rfl, n0, ?_⟩⟩
      have e : takenS ns z n = ((((z.mix * 48271 + 11).fmod 2147483647).fdiv 7).fmod n, { z with pos := z.pos + 1, mix := (z.mix * 48271 + 11).fmod 2147483647 }) := by unfold takenS; rw [if_neg c, if_pos c2]
      rw [e] at q
      exact q _ (fin ⟨z.pos + 1, (z.mix * 48271 + 11).fmod 2147483647, z.rest⟩ (by show 0 ≤ z.pos + 1; omega)) (oth _)
    · have c2 : ¬ (ns.length : Int) < z.pos + 1 := fun h => c2 (decide_eq_true h)
      have hl : z.pos.toNat < ns.length := by omega
      have ecell : L2.atI (ns.map V.int) (z.pos + 1 - 1) = some (.int (ns.getD z.pos.toNat 0)) := by
        have e1 : z.pos + 1 - 1 = ((z.pos.toNat : Nat) : Int) := by omega
        rw [e1]
        refine atI_nat ?_
        rw [List.getElem?_map, List.getElem?_eq_getElem hl, List.getD_eq_getElem?_getD, List.getElem?_eq_getElem hl]
        rfl
      refine row_at rfl upd_same rfl (row_at rfl upd_same rfl ⟨_, _, rfl, rfl, .inl ⟨script, _, _, _, rfl, rfl, sc _, ecell, ?_⟩⟩)
      refine row_at rfl upd_same rfl ⟨_, _, rfl, rfl, .inr ⟨by decide, by decide⟩, _, rfl, _, _, rfl, rfl, _, _, rfl, rfl, .inl ⟨_, rfl, _, _, rfl, rfl, m0, ?_⟩⟩
      refine row_set (i := 2) (j := 2) rfl upd_same rfl ?_
      rw [upd_twice]
      refine ⟨_, rfl, _, _, rfl, rfl, ⟨by decide, by decide, by decide⟩, _, _, rfl, rfl, _, rfl, ?_⟩
      have e : takenS ns z n = ((ns.getD z.pos.toNat 0).fmod n, { pos := z.pos + 1, mix := (z.mix * 48271 + ns.getD z.pos.toNat 0 + 11).fmod 2147483647, rest := if (10 : Int) ^ 18 ≤ ns.getD z.pos.toNat 0 then (ns.getD z.pos.toNat 0).fdiv n else z.rest }) := by unfold takenS; rw [if_neg c, if_neg c2]
      rw [e] at q
      refine ite2 (fun c3 => ?_) (fun c3 => ?_)
      · have c3 : (10 : Int) ^ 18 ≤ ns.getD z.pos.toNat 0 := of_decide_eq_true c3
        refine ⟨_, rfl, _, rfl, _, _, rfl, rfl, ⟨n0, by omega⟩, ?_⟩
        refine row_set (i := 3) (j := 3) rfl upd_same rfl ?_
        rw [upd_twice]
        refine ⟨_, rfl, .inl ⟨_, rfl, _, rfl, _, _, rfl, rfl, n0, ?_⟩⟩
        refine q _ ?_ (oth _)
        show rowAt row script so ⟨z.pos + 1, _, if (10 : Int) ^ 18 ≤ ns.getD z.pos.toNat 0 then _ else _⟩ _
        rw [if_pos c3]
        exact fin ⟨z.pos + 1, _, _⟩ (by show 0 ≤ z.pos + 1; omega)
      · have c3 : ¬ (10 : Int) ^ 18 ≤ ns.getD z.pos.toNat 0 := fun h => c3 (decide_eq_true h)
        refine ⟨_, rfl, .inl ⟨_, rfl, _, rfl, _, _, rfl, rfl, n0, ?_⟩⟩
        refine q _ ?_ (oth _)
        show rowAt row script so ⟨z.pos + 1, _, if (10 : Int) ^ 18 ≤ ns.getD z.pos.toNat 0 then _ else _⟩ _
        rw [if_neg c3]
        exact fin ⟨z.pos + 1, _, _⟩ (by show 0 ≤ z.pos + 1; omega)
end
section
open PySem.Spec PyProof.Rows
variable {P : Program} {w : World} {K : PySem.W.Frag} {mg : Str → Option Value} {base : Heap} {xr : Exc → Value → Option Addr → Hp → Hp → Prop}
theorem lk_l2 {m : Type → Type} {Z : Type} [Eff m Z] (f : D → D → m D) : lk 2 (l2 f) = l2 f := by
  funext ds
  by_cases h : ds.length = 2
  · exact lk_on _ _ _ h
  · rw [lk_len _ _ _ h, l2_len _ _ h]
theorem taken_kept {st : Stmt} (S : Stands K mg "_law_taken" st ["_law_row", "_law_many"]) (sc : FnScope ["_law_row", "_law_many", "_law_found", "_law_cell"] ["_law_row", "_law_many"] (defScope st)) {row script : Addr} {so : Option HO} {ns : List Int}
    (hrs : so ≠ none → row ≠ script) (hss : ∀ H : Hp, (∀ o, so = some o → H script = some o) → SqL K H script (ns.map V.int))
    (body : ∀ (f : Addr) (cdv : Value) (A : Around) (outer : List Env) (s : Shared) (H : Hp) (E : XK) (hr : Room 0 (A.deeper (envOfC "_law_taken" (defScope st) s.heap.objs.size f cdv))), PSs (cxOf (L2.CX P w) P w K mg base ["_law_row", "_law_many", "_law_found", "_law_cell"] "_law_taken" (defScope st) f cdv A outer s H E) (defBody st) (tTaken K)) :
    Kept P w K mg base (L2.CX P w) "_law_taken" 1 2 (spZ (drawG row script so) xr 2 (lk 2 (l2 (m_taken ns row)))) := by
  obtain ⟨f, fd, F, hm, hb⟩ := S.it
  rw [lk_l2 (m := DrawM) (Z := Dr)]
  refine ⟨f, fd, _, rfl, F.okX sc (fun vs H Q E h => ?_) (fun cdv A outer s H vs Q E hr h => ⟨tTaken K, body f cdv A outer s H E hr, taken_read (spTaken_of hrs hss vs H Q E h)⟩), hm, F.kp, hb⟩
  obtain ⟨n, z, rfl, _⟩ := spTaken_of hrs hss vs H Q E h
  rfl
/-! ### law(script) -/
theorem pss_any {X : Cx} {sts : List Stmt} {ι : Type} {t : ι → TS} (h : ∀ i, PSs X sts (t i)) : PSs X sts (fun D σ H => ∃ i, t i D σ H) :=
  ⟨fun pins s σ H D I ⟨i, q⟩ => (h i).run pins s σ H D I q⟩
structure Drawn (K : PySem.W.Frag) where
  row : Addr
  script : Addr
  so : Option HO
  ns : List Int
  hrs : so ≠ none → row ≠ script
  hss : ∀ H : Hp, (∀ o, so = some o → H script = some o) → SqL K H script (ns.map V.int)
def spLaw (K : PySem.W.Frag) : Sp := fun vs H Q _ => ∃ (a : Addr) (ns : List Int), vs = [.ref a] ∧ SqL K H a (ns.map V.int) ∧ ns.length ≤ 63 ∧ ∀ H', Q (.bl true) H'
theorem law_ok {st s1 : Stmt} {rest : List Stmt} {N : List Str} {f : Addr} {fd : FuncData} {k n : Nat} {seed : Int} {h : List Int → Addr → Sto → DrawM Fl} (F : Fun K "law" "law" st f fd) (S : FnScope N ["_law_script"] (defScope st)) (hN : N.length = n + 2) (hb : defBody st = s1 :: rest)
    (first : ∀ (cdv : Value) (A : Around) (outer : List Env) (s : Shared) (H : Hp) (E : XK), PS (cxOf (L2.CX P w) P w K mg base N "law" (defScope st) f cdv A outer s H E) s1 (tAsg (tLst (tCons (tVar 0) (tCons (tC (.int 0)) (tCons (tC (.int seed)) (tCons (tC (.int 0)) tNil))))) (gName 1)))
    (body : ∀ (x : Drawn K) (cdv : Value) (A : Around) (outer : List Env) (s : Shared) (H : Hp) (E : XK) (hr : Room k (A.deeper (envOfC "law" (defScope st) s.heap.objs.size f cdv))), EvSs (bodyCt P w K mg base N "law" st f cdv A outer s H E xr (drawG x.row x.script x.so) k hr S.nd) rest (h x.ns x.row))
    (law : ∀ (ns : List Int) (row script : Addr), ns.length ≤ 63 → ∃ z, Eff.run (h ns row (.sh (.ref script) :: .sh (.ref row) :: List.replicate n .no)) ⟨0, seed, 0⟩ = .ok (.rt (.bl true)) z) :
    FnOk P w K mg base (L2.CX P w) (k + 1) f fd ["_law_script"] (spLaw K) := by
  refine F.okX S (fun vs H Q E h => ?_) (fun cdv A outer s H vs Q E hr h => ?_)
  · obtain ⟨a, ns, rfl, _⟩ := h; rfl
  obtain ⟨a, ns, rfl, hS, hl, q⟩ := h
  have B := fun x => body x cdv A outer s H E hr
  refine ⟨_, by rw [hb]; exact pss_cons (first cdv A outer s H E) (pss_any (t := fun x => Classical.choose (B x)) fun x => (Classical.choose_spec (B x)).1 ()), ?_⟩
  refine ⟨_, rfl, by rw [← lim_eq]; show 4 ≤ 16777216; omega, fun p hp => ?_⟩
  have hpa : H a ≠ none → p ≠ a := fun h e => h (e ▸ hp)
  have hss : ∀ H' : Hp, (∀ o, H a = some o → H' a = some o) → SqL K H' a (ns.map V.int) := fun H' k => by
    rcases hS with hS | hS
    · left
      rcases hS with e | ⟨o, e⟩
      · exact .inl (k _ e)
      · exact .inr ⟨o, k _ e⟩
    · exact .inr hS
  let x : Drawn K := ⟨p, a, H a, ns, hpa, hss⟩
  refine ⟨x, ?_⟩
  have k := (Classical.choose_spec (B x)).2
  obtain ⟨z, ez⟩ := law ns p a hl
  have eσ : (L2.start N [V.ref a]).set 1 (some (.ref p)) = some (.ref a) :: some (.ref p) :: List.replicate n none := by
    unfold L2.start
    rw [hN]
    rfl
  rw [eσ]
  refine k (upd H p (.lst [.ref a, .int 0, .int seed, .int 0])) (fun _ => none) (.sh (.ref a) :: .sh (.ref p) :: List.replicate n .no) (fun _ => none) _ _ ⟨0, seed, 0⟩ _ ?_ ?_ ?_
  · refine ⟨Grow.refl (fun _ _ z => nomatch z), fun b hb => ?_, fun _ _ => rfl, ?_, fun i sl e => ?_, fun i j d e b h1 h2 h3 h4 => ?_⟩
    · rcases hb with e | ⟨e, hb⟩
      · subst e; rw [upd_same]; exact fun z => nomatch z
      · subst e
        rw [upd_ne fun e => hpa hb e.symm]; exact hb
    · simp
    · match i with
      | 0 => cases e; exact ⟨_, rfl, _, rfl, rfl⟩
      | 1 => cases e; exact ⟨_, rfl, _, rfl, rfl⟩
      | i + 2 =>
        have e : (List.replicate n Sl.no)[i]? = some sl := e
        rw [List.getElem?_replicate] at e
        split at e
        · rename_i hi
          cases e
          exact ⟨none, by show (List.replicate n none)[i]? = _; rw [List.getElem?_replicate, if_pos hi], trivial⟩
        · cases e
    · exfalso
      match i with
      | 0 => cases h1
      | 1 => cases h1
      | i + 2 =>
        have h1 : (List.replicate n Sl.no)[i]? = some (.ow d) := h1
        rw [List.getElem?_replicate] at h1
        split at h1 <;> cases h1
  · refine ⟨Int.le_refl 0, upd_same, fun o e => ?_⟩
    have e : H a = some o := e
    rw [show (upd H p _) a = H a from upd_ne fun e2 => hpa (by rw [e]; exact fun z => nomatch z) e2.symm]; exact e
  · rw [ez]
    intro v H' F' G rz r
    have r : v = .bl true := r
    rw [r]
    exact q H'
/-! ### what stands at the module's top -/
def InK (K : PySem.W.Frag) (x : Str) (st : Stmt) : Prop := ∃ (f : Addr) (oc : Value) (od an : Option Addr) (sl : Array (Option Value)) (kV dc pm cd ct : Value),
  PySem.W.nsIn K mainGlobals x = some (some (.ref f)) ∧ K.lookup f = some ⟨oc, od, .func (PySem.W.fnOf x x (defArgs st) (defBody st) (defScope st) .none kV dc pm an cd ct), sl⟩ ∧ PySem.W.codeIn K cd x = true ∧ PySem.W.keepIn K (.ref f) = true
def ConK (K : PySem.W.Frag) (x : Str) (i : Int) : Prop := ∃ t : Tok, PySem.W.nsIn K mainGlobals x = some (some (.int i t))
theorem con_in {x : Str} {i : Int} {t : Tok} (a : PySem.W.nsIn K mainGlobals x = some (some (.int i t))) : ConK K x i := ⟨t, a⟩
theorem in_k {x : Str} {st : Stmt} {f : Addr} {oc : Value} {od an : Option Addr} {sl : Array (Option Value)} {kV dc pm cd ct : Value} (a : PySem.W.nsIn K mainGlobals x = some (some (.ref f)))
    (l : K.lookup f = some ⟨oc, od, .func (PySem.W.fnOf x x (defArgs st) (defBody st) (defScope st) .none kV dc pm an cd ct), sl⟩) (c : PySem.W.codeIn K cd x = true) (k : PySem.W.keepIn K (.ref f) = true) : InK K x st := ⟨f, oc, od, an, sl, kV, dc, pm, cd, ct, a, l, c, k⟩
theorem con_mk {h : Heap} {x : Str} {i : Int} (X : K.In h) (G : h.Ns mainGlobals mg) (a : ConK K x i) : ∃ t, mg x = some (.int i t) := let ⟨t, a⟩ := a; ⟨t, PySem.W.mg_of X G a⟩
theorem no_mk {h : Heap} {x : Str} (X : K.In h) (G : h.Ns mainGlobals mg) (a : PySem.W.nsIn K mainGlobals x = some none) : mg x = none := PySem.W.mg_none_of X G a
theorem stands_mk {h : Heap} {x : Str} {st : Stmt} {ps : List Str} (X : K.In h) (G : h.Ns mainGlobals mg) (a : InK K x st) (hb : ∀ (kV doc pm : Value) (an : Option Addr) (cdv ct : Value) (us : List Value), us.length = ps.length → bindArgs (PySem.W.fnOf x x (defArgs st) (defBody st) (defScope st) .none kV doc pm an cdv ct) ⟨us, []⟩ = pure (ps.zip us)) :
    Stands K mg x st ps := by
  obtain ⟨f, oc, od, an, sl, kV, dc, pm, cd, ct, a, l, c, k⟩ := a
  have F := fun_mk l c k
  exact ⟨f, _, F, PySem.W.mg_of X G a, F.binds hb⟩
theorem law_mk {h : Heap} {st : Stmt} {fa : Addr} {k : Nat} (X : K.In h) (G : h.Ns mainGlobals mg) (a : InK K "law" st) (hfa : mg "law" = some (.ref fa))
    (hb : ∀ (kV doc pm : Value) (an : Option Addr) (cdv ct : Value) (s : Shared) (u : Value), BindsTo s (PySem.W.fnOf "law" "law" (defArgs st) (defBody st) (defScope st) .none kV doc pm an cdv ct) ⟨[u], []⟩ [("_law_script", u)])
    (F : ∀ (fd : FuncData) (base : Heap), Fun K "law" "law" st fa fd → FnOk P w K mg base (L2.CX P w) k fa fd ["_law_script"] (spLaw K)) :
    ∃ fd : FuncData, (∀ (s : Shared) (u : Value), BindsTo s fd ⟨[u], []⟩ [("_law_script", u)]) ∧ ∀ base : Heap, K.In base → base.Ns mainGlobals mg → FnOk P w K mg base (L2.CX P w) k fa fd ["_law_script"] (spLaw K) := by
  obtain ⟨f, oc, od, an, sl, kV, dc, pm, cd, ct, a, l, c, kk⟩ := a
  have e := hfa.symm.trans (PySem.W.mg_of X G a)
  cases e
  exact ⟨_, fun s u => hb kV dc pm an cd ct s u, fun base _ _ => F _ base (fun_mk l c kk)⟩
theorem walk_mk {l : PySem.W.OpenLaw} {q : Program} {loose : List Str} {XP : (Str → Option Value) → Heap → Prop} {YP : World → Heap → Prop} {d : DefRec} {K : Params → PySem.W.Frag} {k : Nat} (hn : l.most = some 63) (hdf : d.params.defaults = []) (hr : Room k callerA)
    (hY : ∀ (w : World) (h : Heap), YP w h → (K w.params).In h)
    (F : ∀ (w : World) (mg : Str → Option Value) (fa : Addr) (h : Heap), (K w.params).In h → h.Ns mainGlobals mg → mg d.name = some (.ref fa) →
      ∃ fd : FuncData, (∀ (s : Shared) (u : Value), BindsTo s fd ⟨[u], []⟩ [("_law_script", u)]) ∧ ∀ base : Heap, (K w.params).In base → base.Ns mainGlobals mg → FnOk l.prog w (K w.params) mg base (L2.CX l.prog w) k fa fd ["_law_script"] (spLaw (K w.params))) :
    PySem.W.WalkO q loose XP YP l.row.toRowW d [] (fun f vs => PySem.call f vs) :=
  L2.walk_of (n := 63) (k := k) (x := "_law_script") (CX := fun w => L2.CX l.prog w) (sp := fun w => spLaw (K w.params)) hn (by decide) hdf hr hY F (fun _ _ a ns hl _ hS => ⟨a, ns, rfl, hS, hl, fun _ => rfl⟩) fun _ _ _ _ _ ⟨_, _, _, _, _, _, _, _, _, _, _, _, z⟩ => z
end
end Vf

namespace Vf
open PySem L2
/-! ### running a mirror -/
section
variable {Z : Type} {m : Type → Type} [Eff m Z] {α β : Type}
def W (x : m α) (z : Z) (p : α → Z → Prop) : Prop := ∃ a z', Eff.run x z = .ok a z' ∧ p a z'
theorem W.imp {x : m α} {z : Z} {p q : α → Z → Prop} (h : W x z p) (k : ∀ a z', p a z' → q a z') : W x z q := let ⟨a, z', e, h⟩ := h; ⟨a, z', e, k a z' h⟩
theorem W_pure {a : α} {z : Z} {p : α → Z → Prop} : W (pure a : m α) z p ↔ p a z := by
  constructor
  · rintro ⟨b, z', e, h⟩; rw [Eff.run_pure] at e; cases e; exact h
  · intro h; exact ⟨a, z, Eff.run_pure a z, h⟩
theorem W_bind {x : m α} {f : α → m β} {z : Z} {p : β → Z → Prop} : W (x >>= f) z p ↔ W x z fun a z' => W (f a) z' p := by
  constructor
  · rintro ⟨b, z', e, h⟩
    rw [Eff.run_bind] at e
    cases q : Eff.run x z with
    | ok a z1 => rw [q] at e; exact ⟨a, z1, q, b, z', e, h⟩
    | ex y z1 => rw [q] at e; cases e
    | bad => rw [q] at e; cases e
  · rintro ⟨a, z1, q, b, z', e, h⟩
    exact ⟨b, z', by rw [Eff.run_bind, q]; exact e, h⟩
theorem W_lift {r : Res α} {z : Z} {p : α → Z → Prop} : W (Eff.lift r : m α) z p ↔ ∃ a, r = .ok a ∧ p a z := by
  constructor
  · rintro ⟨b, z', e, h⟩
    rw [Eff.run_lift] at e
    cases r with
    | ok a => cases e; exact ⟨_, rfl, h⟩
    | ex y => cases e
    | bad => cases e
  · rintro ⟨a, rfl, h⟩
    exact ⟨a, z, by rw [Eff.run_lift]; rfl, h⟩
theorem W_ite {c : Prop} [Decidable c] {x y : m α} {z : Z} {p : α → Z → Prop} : W (if c then x else y) z p ↔ if c then W x z p else W y z p := by split <;> exact Iff.rfl
theorem W_bad {z : Z} {p : α → Z → Prop} : W (bad : m α) z p ↔ False := by
  unfold bad; rw [W_lift]; exact ⟨(fun ⟨a, e, _⟩ => nomatch e), False.elim⟩
theorem W_res {x : Res α} {z : Unit} {p : α → Unit → Prop} : W x z p ↔ ∃ a, x = .ok a ∧ p a () := by
  have := W_lift (m := Res) (r := x) (z := z) (p := p)
  cases z
  exact this
variable {ρ : Sto} {z : Z} {p : D → Z → Prop}
theorem W_var {i : Nat} : W (eVar i ρ : m D) z p ↔ ∃ d, ρ[i]? = some (.sh d) ∧ p d z := by
  unfold eVar
  constructor
  · intro h
    cases e : ρ[i]? with
    | none => rw [e] at h; exact (W_bad.mp h).elim
    | some s =>
      rw [e] at h
      cases s with
      | sh d => exact ⟨d, rfl, W_pure.mp h⟩
      | no => exact (W_bad.mp h).elim
      | ow d => exact (W_bad.mp h).elim
  · rintro ⟨d, e, h⟩; rw [e]; exact W_pure.mpr h
def Sl.d? : Sl → Option D
  | .sh d => some d
  | .ow d => some d
  | .no => none
theorem W_varB {i : Nat} : W (eVarB i ρ : m D) z p ↔ ∃ d, ρ[i]?.bind Sl.d? = some d ∧ p d z := by
  unfold eVarB
  constructor
  · intro h
    cases e : ρ[i]? with
    | none => rw [e] at h; exact (W_bad.mp h).elim
    | some s =>
      rw [e] at h
      cases s with
      | sh d => exact ⟨d, rfl, W_pure.mp h⟩
      | no => exact (W_bad.mp h).elim
      | ow d => exact ⟨d, rfl, W_pure.mp h⟩
  · rintro ⟨d, e, h⟩
    cases e1 : ρ[i]? with
    | none => rw [e1] at e; cases e
    | some s =>
      rw [e1] at e
      cases s with
      | sh d => cases e; exact W_pure.mpr h
      | no => cases e
      | ow d => cases e; exact W_pure.mpr h
theorem W_C {d : D} : W (eC d ρ : m D) z p ↔ p d z := W_pure
theorem W_e2 {f : D → D → Res D} {a b : Sto → m D} : W (e2 f a b ρ) z p ↔ W (a ρ) z fun x z => W (b ρ) z fun y z => ∃ r, f x y = .ok r ∧ p r z := by
  unfold e2; simp only [W_bind, W_lift]
theorem W_e1 {f : D → Res D} {a : Sto → m D} : W (e1 f a ρ) z p ↔ W (a ρ) z fun x z => ∃ r, f x = .ok r ∧ p r z := by
  unfold e1; simp only [W_bind, W_lift]
theorem W_eN {f : List D → Res D} {a : Sto → m (List D)} : W (eN f a ρ) z p ↔ W (a ρ) z fun ds z => ∃ r, f ds = .ok r ∧ p r z := by
  unfold eN; simp only [W_bind, W_lift]
theorem W_eCall {f : List D → m D} {a : Sto → m (List D)} : W (eCall f a ρ) z p ↔ W (a ρ) z fun ds z => W (f ds) z p := by
  unfold eCall; simp only [W_bind]
theorem W_aNil {p : List D → Z → Prop} : W (aNil ρ : m (List D)) z p ↔ p [] z := W_pure
theorem W_aCons {a : Sto → m D} {b : Sto → m (List D)} {p : List D → Z → Prop} : W (aCons a b ρ) z p ↔ W (a ρ) z fun d z => W (b ρ) z fun ds z => p (d :: ds) z := by
  unfold aCons; simp only [W_bind, W_pure]
theorem W_lk {n : Nat} {f : List D → m α} {ds : List D} {z : Z} {p : α → Z → Prop} : W (lk n f ds) z p ↔ ds.length = n ∧ W (f ds) z p := by
  unfold lk
  split
  · rename_i h; exact ⟨fun k => ⟨h, k⟩, fun k => k.2⟩
  · rename_i h; exact ⟨fun k => (W_bad.mp k).elim, fun k => absurd k.1 h⟩
theorem asB_eq {d : D} {b : Bool} : asB d = .ok b ↔ d = .bl b := by
  cases d <;> simp [asB]
theorem asI_eq {d : D} {b : Int} : asI d = .ok b ↔ d = .int b := by
  cases d <;> simp [asI]
theorem W_eAnd {a b : Sto → m D} : W (eAnd a b ρ) z p ↔ W (a ρ) z fun d z => ∃ x, d = .bl x ∧ if x then W (b ρ) z p else p (.bl false) z := by
  unfold eAnd; simp only [W_bind, W_lift, W_ite, W_pure, asB_eq]
theorem W_eOr {a b : Sto → m D} : W (eOr a b ρ) z p ↔ W (a ρ) z fun d z => ∃ x, d = .bl x ∧ if x then p (.bl true) z else W (b ρ) z p := by
  unfold eOr; simp only [W_bind, W_lift, W_ite, W_pure, asB_eq]
theorem W_eNot {a : Sto → m D} : W (eNot a ρ) z p ↔ W (a ρ) z fun d z => ∃ x, d = .bl x ∧ p (.bl (!x)) z := by
  unfold eNot; simp only [W_bind, W_lift, W_pure, asB_eq]
theorem W_eIf {t : Sto → m Bool} {a b : Sto → m D} : W (eIf t a b ρ) z p ↔ W (t ρ) z fun x z => if x then W (a ρ) z p else W (b ρ) z p := by
  unfold eIf; simp only [W_bind, W_ite]
theorem W_chain {f f' : D → D → Res D} {a b d : Sto → m D} : W (eChain f f' a b d ρ) z p ↔ W (a ρ) z fun x z => W (b ρ) z fun y z => ∃ t, f x y = .ok t ∧ ∃ k, t = .bl k ∧ if k then W (d ρ) z fun w z => ∃ r, f' y w = .ok r ∧ p r z else p (.bl false) z := by
  unfold eChain; simp only [W_bind, W_lift, W_ite, W_pure, asB_eq]
theorem W_sl {a : Sto → m D} {lo hi : Sto → m (Option Int)} : W (eSl a lo hi ρ) z p ↔ W (a ρ) z fun x z => W (lo ρ) z fun l z => W (hi ρ) z fun h z => ∃ r, slD x l h = .ok r ∧ p r z := by
  unfold eSl; simp only [W_bind, W_lift]
theorem W_pNo {p : Option Int → Z → Prop} : W (pNo ρ : m (Option Int)) z p ↔ p none z := W_pure
theorem W_pSome {f : Sto → m D} {p : Option Int → Z → Prop} : W (pSome f ρ) z p ↔ W (f ρ) z fun d z => ∃ i, d = .int i ∧ p (some i) z := by
  unfold pSome; simp only [W_bind, W_lift, W_pure, asI_eq]
theorem W_LR {f : Sto → m D} : W (eLR f ρ) z p ↔ W (f ρ) z fun d z => ∃ i, d = .int i ∧ (0 ≤ i ∧ i ≤ 16777216) ∧ p (.lst (rangeD 0 i.toNat)) z := by
  unfold eLR; simp only [W_bind, W_lift, W_ite, W_pure, asI_eq, W_bad]
  constructor
  · intro h; refine h.imp fun d z ⟨i, e, k⟩ => ⟨i, e, ?_⟩
    split at k
    · rename_i q; exact ⟨q, k⟩
    · exact k.elim
  · intro h; refine h.imp fun d z ⟨i, e, q, k⟩ => ⟨i, e, ?_⟩
    rw [if_pos q]; exact k
theorem W_lend {i : Nat} {f : Sto → m D} : W (eLend i f ρ) z p ↔ W (f (frz1 i ρ)) z fun d z => d.imm = true ∧ p d z := by
  unfold eLend; simp only [W_bind, W_ite, W_pure, W_bad]
  constructor
  · intro h; refine h.imp fun d z k => ?_
    split at k
    · rename_i q; exact ⟨q, k⟩
    · exact k.elim
  · intro h; refine h.imp fun d z ⟨q, k⟩ => ?_
    rw [if_pos q]; exact k
/-- tests -/
theorem W_tV {f : Sto → m D} {p : Bool → Z → Prop} : W (tV f ρ) z p ↔ W (f ρ) z fun d z => ∃ b, d = .bl b ∧ p b z := by
  unfold tV; simp only [W_bind, W_lift, asB_eq]
theorem W_tAnd {a b : Sto → m Bool} {p : Bool → Z → Prop} : W (tAnd' a b ρ) z p ↔ W (a ρ) z fun x z => if x then W (b ρ) z p else p false z := by
  unfold tAnd'; simp only [W_bind, W_ite, W_pure]
theorem W_tOr {a b : Sto → m Bool} {p : Bool → Z → Prop} : W (tOr' a b ρ) z p ↔ W (a ρ) z fun x z => if x then p true z else W (b ρ) z p := by
  unfold tOr'; simp only [W_bind, W_ite, W_pure]
theorem W_tNot {a : Sto → m Bool} {p : Bool → Z → Prop} : W (tNot' a ρ) z p ↔ W (a ρ) z fun x z => p (!x) z := by
  unfold tNot'; simp only [W_bind, W_pure]
theorem W_tYes {p : Bool → Z → Prop} : W (tYes' ρ : m Bool) z p ↔ p true z := W_pure
/-- iterators -/
theorem W_iS {f : Sto → m D} {p : List D → Z → Prop} : W (iS f ρ) z p ↔ W (f ρ) z fun d z => ∃ ds, seqD d = .ok ds ∧ p ds z := by
  unfold iS; simp only [W_bind, W_lift]
theorem W_iR {f : List D → Res (List D)} {a : Sto → m (List D)} {p : List D → Z → Prop} : W (iR f a ρ) z p ↔ W (a ρ) z fun d z => ∃ ds, f d = .ok ds ∧ p ds z := by
  unfold iR; simp only [W_bind, W_lift]
variable {q : Fl → Z → Prop}
theorem W_sNil : W (sNil ρ : m Fl) z q ↔ q (.nx ρ) z := W_pure
theorem W_sPass : W (sPass ρ : m Fl) z q ↔ q (.nx ρ) z := W_pure
theorem W_sNever : W (sNever ρ : m Fl) z q ↔ False := W_bad
def flK (k : Sto → Z → Prop) (q : Fl → Z → Prop) : Fl → Z → Prop := fun r z => match r with
  | .nx ρ' => k ρ' z
  | r => q r z
theorem flK_nx {k : Sto → Z → Prop} {ρ : Sto} : flK k q (.nx ρ) z ↔ k ρ z := Iff.rfl
theorem flK_rt {k : Sto → Z → Prop} {d : D} : flK k q (.rt d) z ↔ q (.rt d) z := Iff.rfl
theorem flK_bk {k : Sto → Z → Prop} {ρ : Sto} : flK k q (.bk ρ) z ↔ q (.bk ρ) z := Iff.rfl
theorem flK_ct {k : Sto → Z → Prop} {ρ : Sto} : flK k q (.ct ρ) z ↔ q (.ct ρ) z := Iff.rfl
theorem W_sSeq {a b : Sto → m Fl} : W (sSeq a b ρ) z q ↔ W (a ρ) z (flK (fun ρ' z => W (b ρ') z q) q) := by
  unfold sSeq; rw [W_bind]
  constructor
  · intro h; refine h.imp fun r z k => ?_
    cases r with
    | nx ρ' => exact k
    | rt d => exact (W_pure (p := q)).mp (show W (pure (Fl.rt d) : m Fl) z q from k)
    | bk d => exact (W_pure (p := q)).mp (show W (pure (Fl.bk d) : m Fl) z q from k)
    | ct d => exact (W_pure (p := q)).mp (show W (pure (Fl.ct d) : m Fl) z q from k)
  · intro h; refine h.imp fun r z k => ?_
    cases r with
    | nx ρ' => exact k
    | rt d => exact (W_pure (a := Fl.rt d) (p := q)).mpr k
    | bk d => exact (W_pure (a := Fl.bk d) (p := q)).mpr k
    | ct d => exact (W_pure (a := Fl.ct d) (p := q)).mpr k
theorem W_sIf {t : Sto → m Bool} {a b : Sto → m Fl} : W (sIf t a b ρ) z q ↔ W (t ρ) z fun x z => if x then W (a ρ) z q else W (b ρ) z q := by
  unfold sIf; simp only [W_bind, W_ite]
theorem W_sRet {e : Sto → m D} : W (sRet e ρ) z q ↔ W (e ρ) z fun d z => q (.rt d) z := by
  unfold sRet; simp only [W_bind, W_pure]
theorem W_sAsg {e : Sto → m D} {tg : D → Sto → Option Sto} : W (sAsg e tg ρ) z q ↔ W (e ρ) z fun d z => ∃ ρ', tg d ρ = some ρ' ∧ q (.nx ρ') z := by
  unfold sAsg; rw [W_bind]
  constructor
  · intro h; refine h.imp fun d z k => ?_
    cases e : tg d ρ with
    | none => simp only [e] at k; exact (W_bad.mp k).elim
    | some ρ' => simp only [e] at k; exact ⟨ρ', rfl, W_pure.mp k⟩
  · intro h; refine h.imp fun d z ⟨ρ', e, k⟩ => ?_
    simp only [e]; exact W_pure.mpr k
theorem W_sSet {e : Sto → m D} {i : Nat} : W (sAsg e (gN i) ρ) z q ↔ W (e ρ) z fun d z => q (.nx (ρ.set i (.sh d))) z := by
  rw [W_sAsg]; simp [gN]
theorem W_sOwn {e : Sto → m D} {i : Nat} : W (sOwn i e ρ) z q ↔ W (e ρ) z fun d z => q (.nx (ρ.set i (.ow d))) z := by
  unfold sOwn; simp only [W_bind, W_pure]
theorem W_sFor {it : Sto → m (List D)} {tg : D → Sto → Option Sto} {b : Sto → m Fl} : W (sFor it tg b ρ) z q ↔ W (it ρ) z fun ds z => W (forGo tg b ds ρ) z q := by
  unfold sFor; rw [W_bind]
theorem W_sExpr {e : Sto → m D} : W (sExpr e ρ) z q ↔ W (e ρ) z fun d z => q (.nx ρ) z := by
  unfold sExpr; simp only [W_bind, W_pure]
theorem W_sFrz {i : Nat} {h : Sto → m Fl} : W (sFrz i h ρ) z q ↔ W (h (frz1 i ρ)) z q := Iff.rfl
theorem W_sAug {i : Nat} {f : D → D → Res D} {e : Sto → m D} : W (sAug i f e ρ) z q ↔ ∃ d, ρ[i]? = some (.sh d) ∧ W (e ρ) z fun y z => ∃ r, f d y = .ok r ∧ q (.nx (ρ.set i (.sh r))) z := by
  unfold sAug
  constructor
  · intro h
    split at h
    · rename_i d e; exact ⟨d, e, by simpa only [W_bind, W_lift, W_pure] using h⟩
    · exact (W_bad.mp h).elim
  · rintro ⟨d, e, h⟩; rw [e]; simpa only [W_bind, W_lift, W_pure] using h
theorem W_sApp {i : Nat} {ex : Sto → m D} : W (sApp i ex ρ) z q ↔ ∃ xs, ρ[i]? = some (.ow (.lst xs)) ∧ W (ex ρ) z fun d z => xs.length < lim ∧ q (.nx (ρ.set i (.ow (.lst (xs ++ [d]))))) z := by
  unfold sApp
  constructor
  · intro h
    split at h
    · rename_i xs e
      refine ⟨xs, e, ?_⟩
      rw [W_bind] at h
      refine h.imp fun d z k => ?_
      rw [W_ite] at k
      split at k
      · rename_i hl; exact ⟨hl, W_pure.mp k⟩
      · exact (W_bad.mp k).elim
    · exact (W_bad.mp h).elim
  · rintro ⟨xs, e, h⟩
    rw [e]
    refine W_bind.mpr (h.imp fun d z ⟨hl, k⟩ => ?_)
    rw [if_pos hl]; exact W_pure.mpr k
theorem W_sSetD {i : Nat} {k e : Sto → m D} : W (sSetD i k e ρ) z q ↔ ∃ dd, ρ[i]? = some (.ow dd) ∧ W (e ρ) z fun d z => W (k ρ) z fun kd z => ∃ d', putD dd kd d = some d' ∧ q (.nx (ρ.set i (.ow d'))) z := by
  unfold sSetD
  constructor
  · intro h
    split at h
    · rename_i dd e
      refine ⟨dd, e, ?_⟩
      simp only [W_bind] at h
      refine h.imp fun d z h => h.imp fun kd z h => ?_
      cases e : putD dd kd d with
      | none => simp only [e] at h; exact (W_bad.mp h).elim
      | some d' => simp only [e] at h; exact ⟨d', rfl, W_pure.mp h⟩
    · exact (W_bad.mp h).elim
  · rintro ⟨dd, e, h⟩
    rw [e]
    simp only [W_bind]
    refine h.imp fun d z h => h.imp fun kd z ⟨d', e, h⟩ => ?_
    simp only [e]; exact W_pure.mpr h
theorem W_par2 {i j : Nat} {o1 o2 : Bool} {a b : Sto → m D} : W (sPar2 i j o1 o2 a b ρ) z q ↔ W (a ρ) z fun x z => W (b ρ) z fun y z => q (.nx ((ρ.set i (slM o1 x)).set j (slM o2 y))) z := by
  unfold sPar2; simp only [W_bind, W_pure]
theorem W_par3 {i j l : Nat} {o1 o2 o3 : Bool} {a b d : Sto → m D} : W (sPar3 i j l o1 o2 o3 a b d ρ) z q ↔ W (a ρ) z fun x z => W (b ρ) z fun y z => W (d ρ) z fun w z => q (.nx (((ρ.set i (slM o1 x)).set j (slM o2 y)).set l (slM o3 w))) z := by
  unfold sPar3; simp only [W_bind, W_pure]
theorem W_runB {N : Nat} {h : Sto → m Fl} {ds : List D} : W (runB N h ds) z p ↔ W (h (initS N ds)) z fun r z => match r with | .nx _ => p .non z | .rt d => p d z | _ => False := by
  unfold runB; rw [W_bind]
  constructor
  · intro h; refine h.imp fun r z k => ?_
    cases r with
    | nx ρ' => exact (W_pure (a := D.non) (p := p)).mp k
    | rt d => exact (W_pure (a := d) (p := p)).mp k
    | bk d => exact (W_bad (p := p)).mp k
    | ct d => exact (W_bad (p := p)).mp k
  · intro h; refine h.imp fun r z k => ?_
    cases r with
    | nx ρ' => exact (W_pure (a := D.non) (p := p)).mpr k
    | rt d => exact (W_pure (a := d) (p := p)).mpr k
    | bk d => exact (W_bad (p := p)).mpr k
    | ct d => exact (W_bad (p := p)).mpr k
/-- loops -/
theorem W_for_nil {tg : D → Sto → Option Sto} {b : Sto → m Fl} : W (forGo tg b [] ρ) z q ↔ q (.nx ρ) z := by unfold forGo; exact W_pure
def loopK (k : Sto → Z → Prop) (q : Fl → Z → Prop) : Fl → Z → Prop := fun r z => match r with
  | .nx ρ' => k ρ' z
  | .ct ρ' => k ρ' z
  | .bk ρ' => q (.nx ρ') z
  | .rt d => q (.rt d) z
theorem loopK_nx {k : Sto → Z → Prop} {ρ : Sto} : loopK k q (.nx ρ) z ↔ k ρ z := Iff.rfl
theorem loopK_ct {k : Sto → Z → Prop} {ρ : Sto} : loopK k q (.ct ρ) z ↔ k ρ z := Iff.rfl
theorem loopK_bk {k : Sto → Z → Prop} {ρ : Sto} : loopK k q (.bk ρ) z ↔ q (.nx ρ) z := Iff.rfl
theorem loopK_rt {k : Sto → Z → Prop} {d : D} : loopK k q (.rt d) z ↔ q (.rt d) z := Iff.rfl
theorem W_for_cons {tg : D → Sto → Option Sto} {b : Sto → m Fl} {d : D} {ds : List D} : W (forGo tg b (d :: ds) ρ) z q ↔ ∃ ρ1, tg d ρ = some ρ1 ∧ W (b ρ1) z (loopK (fun ρ' z => W (forGo tg b ds ρ') z q) q) := by
  conv => lhs; unfold forGo
  constructor
  · intro h
    cases e : tg d ρ with
    | none => simp only [e] at h; exact (W_bad.mp h).elim
    | some ρ1 =>
      simp only [e] at h
      rw [W_bind] at h
      refine ⟨ρ1, rfl, h.imp fun r z k => ?_⟩
      cases r with
      | nx ρ' => exact k
      | ct ρ' => exact k
      | bk ρ' => exact (W_pure (a := Fl.nx ρ') (p := q)).mp k
      | rt d => exact (W_pure (a := Fl.rt d) (p := q)).mp k
  · rintro ⟨ρ1, e, h⟩
    simp only [e]
    rw [W_bind]
    refine h.imp fun r z k => ?_
    cases r with
    | nx ρ' => exact k
    | ct ρ' => exact k
    | bk ρ' => exact (W_pure (a := Fl.nx ρ') (p := q)).mpr k
    | rt d => exact (W_pure (a := Fl.rt d) (p := q)).mpr k
theorem W_step {tg : D → Sto → Option Sto} {b b' : Sto → m Fl} {d : D} {ds : List D} {ρ1 : Sto} (hb : b = b') (e : tg d ρ = some ρ1) (h : W (b' ρ1) z (loopK (fun ρ' z => W (forGo tg b ds ρ') z q) q)) : W (forGo tg b (d :: ds) ρ) z q := by
  subst hb
  exact W_for_cons.mpr ⟨ρ1, e, h⟩
/-- a loop by an invariant over what is left -/
theorem W_for {tg : D → Sto → Option Sto} {b : Sto → m Fl} (I : List D → List D → Sto → Z → Prop) {ds : List D} (h0 : I [] ds ρ z) (hq : ∀ ρ z, I ds [] ρ z → q (.nx ρ) z)
    (step : ∀ (l : List D) (d : D) (r : List D) (ρ : Sto) (z : Z), ds = l ++ d :: r → I l (d :: r) ρ z → ∃ ρ1, tg d ρ = some ρ1 ∧ W (b ρ1) z (loopK (fun ρ' z => I (l ++ [d]) r ρ' z) q)) : W (forGo tg b ds ρ) z q := by
  have go : ∀ (r l : List D) (ρ : Sto) (z : Z), ds = l ++ r → I l r ρ z → W (forGo tg b r ρ) z q := by
    intro r
    induction r with
    | nil =>
      intro l ρ z e h
      rw [List.append_nil] at e
      subst e
      exact W_for_nil.mpr (hq ρ z h)
    | cons d r ih =>
      intro l ρ z e h
      obtain ⟨ρ1, e1, k⟩ := step l d r ρ z e h
      refine W_for_cons.mpr ⟨ρ1, e1, k.imp fun fl z k => ?_⟩
      cases fl with
      | nx ρ' => exact ih _ ρ' z (by rw [List.append_assoc]; exact e) k
      | ct ρ' => exact ih _ ρ' z (by rw [List.append_assoc]; exact e) k
      | bk ρ' => exact k
      | rt d => exact k
  exact go ds [] ρ z rfl h0
/-- comprehensions -/
theorem W_nox {x : m α} {z : Z} {p : α → Z → Prop} : W (Eff.nox x) z p ↔ W x z p := by
  unfold W
  rw [Eff.run_nox]
  cases Eff.run x z with
  | ok a z' => exact Iff.rfl
  | ex e z' => exact ⟨(fun ⟨_, _, e, _⟩ => nomatch e), (fun ⟨_, _, e, _⟩ => nomatch e)⟩
  | bad => exact ⟨(fun ⟨_, _, e, _⟩ => nomatch e), (fun ⟨_, _, e, _⟩ => nomatch e)⟩
theorem W_eLc {it : Sto → m (List D)} {tg : D → Sto → Option Sto} {vs : List Nat} {ft : Sto → m Bool} {fe : Sto → m D} : W (eLc it tg vs ft fe ρ) z p ↔ W (it ρ) z fun ds z => ds.length ≤ lim ∧ W (lcGo (wipeS ρ vs) tg ft fe ds) z fun xs z => p (.lst xs) z := by
  unfold eLc; rw [W_bind]
  constructor
  · intro h; refine h.imp fun ds z k => ?_
    rw [W_ite] at k
    split at k
    · rename_i hl; exact ⟨hl, by simpa only [W_bind, W_pure, W_nox] using k⟩
    · exact (W_bad (p := p)).mp k |>.elim
  · intro h; refine h.imp fun ds z ⟨hl, k⟩ => ?_
    rw [if_pos hl]; simpa only [W_bind, W_pure, W_nox] using k
theorem W_lc_cons {tg : D → Sto → Option Sto} {ft : Sto → m Bool} {fe : Sto → m D} {d : D} {ds : List D} {p : List D → Z → Prop} : W (lcGo ρ tg ft fe (d :: ds)) z p ↔ ∃ ρ2, tg d ρ = some ρ2 ∧ W (ft ρ2) z fun b z => if b then W (fe ρ2) z fun y z => W (lcGo ρ tg ft fe ds) z fun r z => p (y :: r) z else W (lcGo ρ tg ft fe ds) z p := by
  conv => lhs; unfold lcGo
  constructor
  · intro h
    cases e : tg d ρ with
    | none => simp only [e] at h; exact (W_bad.mp h).elim
    | some ρ1 => simp only [e] at h; exact ⟨ρ1, rfl, by simpa only [W_bind, W_ite, W_pure] using h⟩
  · rintro ⟨ρ1, e, h⟩
    simp only [e]; simpa only [W_bind, W_ite, W_pure] using h
theorem W_lc_nil {tg : D → Sto → Option Sto} {ft : Sto → m Bool} {fe : Sto → m D} {p : List D → Z → Prop} : W (lcGo ρ tg ft fe []) z p ↔ p [] z := by unfold lcGo; exact W_pure
end
end Vf

namespace Vf
open PySem L2
/-! ### operators at known data -/
theorem f1_eq (f : D → Res D) (d : D) : f1 f [d] = f d := rfl
theorem f2_eq (f : D → D → Res D) (d e : D) : f2 f [d, e] = f d e := rfl
theorem addI_eq (a b : Int) : addI (.int a) (.int b) = .ok (.int (a + b)) := rfl
theorem addD_int (a b : Int) : addD (.int a) (.int b) = .ok (.int (a + b)) := rfl
theorem addD_tup (a b : List D) (h : a.length + b.length ≤ lim) : addD (.tup a) (.tup b) = .ok (.tup (a ++ b)) := if_pos h
theorem addD_lst (a b : List D) (h : a.length + b.length ≤ lim) : addD (.lst a) (.lst b) = .ok (.lst (a ++ b)) := if_pos h
theorem subD_int (a b : Int) : subD (.int a) (.int b) = .ok (.int (a - b)) := rfl
theorem mulD_int (a b : Int) (h : (small64 a || small64 b) = true) : mulD (.int a) (.int b) = .ok (.int (a * b)) := if_pos h
theorem mulD_lo (a b : Int) (h0 : -1000000000 ≤ a) (h1 : a ≤ 1000000000) : mulD (.int a) (.int b) = .ok (.int (a * b)) := mulD_int _ _ (by unfold Vf.small64; rw [decide_eq_true (by omega), decide_eq_true (by omega)]; rfl)
theorem fmod_nat (a b : Nat) : (a : Int).fmod (b : Int) = ((a % b : Nat) : Int) := (Int.ofNat_fmod a b).symm
theorem fdiv_nat (a b : Nat) : (a : Int).fdiv (b : Int) = ((a / b : Nat) : Int) := (Int.ofNat_fdiv a b).symm
theorem modD_int (a b : Int) (h : b ≠ 0) : modD (.int a) (.int b) = .ok (.int (a.fmod b)) := if_pos h
theorem fdivD_int (a b : Int) (h : b ≠ 0 ∧ b.natAbs < 1073741824) : fdivD (.int a) (.int b) = .ok (.int (a.fdiv b)) := if_pos h
theorem ltD_int (a b : Int) : ltD (.int a) (.int b) = .ok (.bl (decide (a < b))) := rfl
theorem leD_int (a b : Int) : leD (.int a) (.int b) = .ok (.bl (decide (a ≤ b))) := rfl
theorem gtD_int (a b : Int) : gtD (.int a) (.int b) = .ok (.bl (decide (b < a))) := rfl
theorem geD_int (a b : Int) : geD (.int a) (.int b) = .ok (.bl (decide (b ≤ a))) := rfl
theorem eqD_int (a b : Int) : eqD (.int a) (.int b) = .ok (.bl (decide (a = b))) := by
  have e : PyData.eqv (.int a) (.int b) = decide (a = b) := by
    simp [PyData.eqv]
    first | rfl | (by_cases h : a = b <;> simp [h])
  show (if _ then _ else _) = _
  rw [if_pos (by rfl)]
  show Res.ok (D.bl (PyData.eqv (.int a) (.int b))) = _
  rw [e]
theorem neD_int (a b : Int) : neD (.int a) (.int b) = .ok (.bl (!decide (a = b))) := by
  have e : PyData.eqv (.int a) (.int b) = decide (a = b) := by
    simp [PyData.eqv]
    first | rfl | (by_cases h : a = b <;> simp [h])
  show (if _ then _ else _) = _
  rw [if_pos (by rfl)]
  show Res.ok (D.bl (!PyData.eqv (.int a) (.int b))) = _
  rw [e]
theorem eqD_bl (a b : Bool) : eqD (.bl a) (.bl b) = .ok (.bl (a == b)) := by cases a <;> cases b <;> rfl
theorem neD_bl (a b : Bool) : neD (.bl a) (.bl b) = .ok (.bl (a != b)) := by cases a <;> cases b <;> rfl
theorem isD_non (d : D) : isD d .non = .ok (.bl (isN d)) := rfl
theorem isntD_non (d : D) : isntD d .non = .ok (.bl (!isN d)) := rfl
theorem isN_non : isN .non = true := rfl
theorem isN_int (i : Int) : isN (.int i) = false := rfl
theorem isN_tup (i : List D) : isN (.tup i) = false := rfl
theorem isN_lst (i : List D) : isN (.lst i) = false := rfl
theorem isi_ii (i : Int) : isiD (.int i) (.ty .int) = .ok (.bl true) := rfl
theorem isi_ib (i : Int) : isiD (.int i) (.ty .bool) = .ok (.bl false) := rfl
theorem isi_it (i : Int) : isiD (.int i) (.ty .tuple) = .ok (.bl false) := rfl
theorem isi_ti (i : List D) : isiD (.tup i) (.ty .int) = .ok (.bl false) := rfl
theorem isi_tb (i : List D) : isiD (.tup i) (.ty .bool) = .ok (.bl false) := rfl
theorem isi_tt (i : List D) : isiD (.tup i) (.ty .tuple) = .ok (.bl true) := rfl
theorem lenS_t (i : List D) : lenSD (.tup i) = .ok (.int i.length) := rfl
theorem lenS_l (i : List D) : lenSD (.lst i) = .ok (.int i.length) := rfl
theorem tupD_eq (i : List D) (h : i.length ≤ lim) : tupD i = .ok (.tup i) := if_pos h
theorem lstD_eq (i : List D) (h : i.length ≤ lim) : lstD i = .ok (.lst i) := if_pos h
theorem repSl (n : Nat) : List.replicate (n + 1) Sl.no = Sl.no :: List.replicate n Sl.no := rfl
theorem slM_f (d : D) : slM false d = .sh d := rfl
theorem slM_t (d : D) : slM true d = .ow d := rfl
theorem tupD_0 : tupD [] = .ok (.tup []) := if_pos (by show 0 ≤ lim; decide)
theorem tupD_1 (a : D) : tupD [a] = .ok (.tup [a]) := if_pos (by show 1 ≤ lim; decide)
theorem tupD_2 (a b : D) : tupD [a, b] = .ok (.tup [a, b]) := if_pos (by show 2 ≤ lim; decide)
theorem tupD_3 (a b c : D) : tupD [a, b, c] = .ok (.tup [a, b, c]) := if_pos (by show 3 ≤ lim; decide)
theorem tupD_5 (a b c d e : D) : tupD [a, b, c, d, e] = .ok (.tup [a, b, c, d, e]) := if_pos (by show 5 ≤ lim; decide)
theorem lstD_0 : lstD [] = .ok (.lst []) := if_pos (by show 0 ≤ lim; decide)
theorem lstD_1 (a : D) : lstD [a] = .ok (.lst [a]) := if_pos (by show 1 ≤ lim; decide)
theorem lstD_2 (a b : D) : lstD [a, b] = .ok (.lst [a, b]) := if_pos (by show 2 ≤ lim; decide)
theorem lstD_3 (a b c : D) : lstD [a, b, c] = .ok (.lst [a, b, c]) := if_pos (by show 3 ≤ lim; decide)
theorem tupleD_l (i : List D) : tupleD (.lst i) = .ok (.tup i) := rfl
theorem tupleD_t (i : List D) : tupleD (.tup i) = .ok (.tup i) := rfl
theorem seqD_t (i : List D) : seqD (.tup i) = .ok i := rfl
theorem seqD_l (i : List D) : seqD (.lst i) = .ok i := rfl
theorem intD_i (i : Int) : intD (.int i) = .ok (.int i) := rfl
theorem revD_t (i : List D) : revD (.tup i) = .ok (.tup i.reverse) := rfl
theorem slD_t (i : List D) (a b : Option Int) : slD (.tup i) a b = .ok (.tup (cutD i a b)) := rfl
theorem slD_l (i : List D) (a b : Option Int) : slD (.lst i) a b = .ok (.lst (cutD i a b)) := rfl
theorem atI_nat' {α : Type} {xs : List α} {i : Int} {k : Nat} (e : i = (k : Int)) {d : α} (h : xs[k]? = some d) : L2.atI xs i = some d := by subst e; exact atI_nat h
theorem ixD_t {xs : List D} {i : Int} {d : D} (h : L2.atI xs i = some d) : ixD (.tup xs) (.int i) = .ok d := by
  show (match L2.atI xs i with | some x => Res.ok x | none => .bad : Res D) = _
  rw [h]
theorem ixD_l {xs : List D} {i : Int} {d : D} (h : L2.atI xs i = some d) : ixD (.lst xs) (.int i) = .ok d := by
  show (match L2.atI xs i with | some x => Res.ok x | none => .bad : Res D) = _
  rw [h]
theorem ixD_2_0 (a b : D) : ixD (.tup [a, b]) (.int 0) = .ok a := rfl
theorem ixD_2_1 (a b : D) : ixD (.tup [a, b]) (.int 1) = .ok b := rfl
theorem cutD_nat (xs : List D) (a b : Nat) : cutD xs (some (a : Int)) (some (b : Int)) = (xs.drop a).take (b - a) := by
  unfold cutD
  rw [HT.sIx_nat, HT.sIx_nat]
  apply List.ext_getElem?
  intro i
  rw [List.getElem?_take, List.getElem?_take, List.getElem?_drop, List.getElem?_drop]
  by_cases h : a + i < xs.length
  · rw [Nat.min_eq_left (by omega : a ≤ xs.length)]
    by_cases h2 : i < b - a
    · rw [if_pos h2, if_pos (by omega)]
    · rw [if_neg h2, if_neg (by omega)]
  · rw [List.getElem?_eq_none (i := a + i) (by omega)]
    by_cases h3 : i < min b xs.length - min a xs.length
    · exfalso; omega
    · rw [if_neg h3]; split <;> rfl
theorem cutD_to (xs : List D) (b : Nat) : cutD xs none (some (b : Int)) = xs.take b := by
  unfold cutD
  rw [HT.sIx_nat, HT.sIx_none, Nat.sub_zero, List.drop_zero]
  by_cases h2 : b ≤ xs.length
  · rw [Nat.min_eq_left h2]
  · rw [Nat.min_eq_right (by omega), List.take_of_length_le (Nat.le_refl _), List.take_of_length_le (by omega)]
theorem cutD_from (xs : List D) (a : Nat) : cutD xs (some (a : Int)) none = xs.drop a := by
  unfold cutD
  rw [HT.sIx_nat, HT.sIx_none]
  by_cases h : a ≤ xs.length
  · rw [Nat.min_eq_left h, List.take_of_length_le (by rw [List.length_drop]; omega)]
  · rw [Nat.min_eq_right (by omega), List.drop_eq_nil_of_le (Nat.le_refl _), List.drop_eq_nil_of_le (by omega), List.take_nil]
/-- tuples of ints -/
abbrev tI (xs : List Int) : D := .tup (xs.map .int)
theorem plains_int (xs : List Int) : D.plains (xs.map D.int) = true := by
  induction xs with
  | nil => rfl
  | cons x xs ih => show (true && D.plains (xs.map D.int)) = true; rw [ih]; rfl
theorem depth_int (xs : List Int) : PyData.depthAll (D.pys (xs.map D.int)) = 0 := by
  induction xs with
  | nil => simp [D.pys, PyData.depthAll]
  | cons x xs ih => simp [D.pys, D.py, PyData.depthAll, PyData.depth, ih]
theorem data_tI (xs : List Int) : (tI xs).data = true := by
  show (D.plains _ && decide (PyData.depth (.tuple _) ≤ 64)) = true
  rw [plains_int]
  simp [PyData.depth, depth_int]
theorem eqv_tI (xs ys : List Int) : PyData.eqvAll (D.pys (xs.map D.int)) (D.pys (ys.map D.int)) = decide (xs = ys) := by
  induction xs generalizing ys with
  | nil => cases ys <;> simp [D.pys, PyData.eqvAll]
  | cons x xs ih =>
    cases ys with
    | nil => simp [D.pys, PyData.eqvAll]
    | cons y ys =>
      have := ih ys
      simp only [List.map_cons, D.pys, D.py, PyData.eqvAll, this]
      by_cases h : x = y
      · subst h; simp [PyData.eqv]
      · simp [PyData.eqv, h]
theorem eqD_tI (xs ys : List Int) : eqD (tI xs) (tI ys) = .ok (.bl (decide (xs = ys))) := by
  show (if _ then _ else _) = _
  rw [if_pos (by rw [data_tI, data_tI]; rfl)]
  show Res.ok (D.bl (PyData.eqv (.tuple _) (.tuple _))) = _
  rw [show PyData.eqv (.tuple (D.pys (xs.map D.int))) (.tuple (D.pys (ys.map D.int))) = PyData.eqvAll (D.pys (xs.map D.int)) (D.pys (ys.map D.int)) by simp [PyData.eqv], eqv_tI]
theorem neD_tI (xs ys : List Int) : neD (tI xs) (tI ys) = .ok (.bl (!decide (xs = ys))) := by
  show (if _ then _ else _) = _
  rw [if_pos (by rw [data_tI, data_tI]; rfl)]
  show Res.ok (D.bl (!PyData.eqv (.tuple _) (.tuple _))) = _
  rw [show PyData.eqv (.tuple (D.pys (xs.map D.int))) (.tuple (D.pys (ys.map D.int))) = PyData.eqvAll (D.pys (xs.map D.int)) (D.pys (ys.map D.int)) by simp [PyData.eqv], eqv_tI]
theorem res_of_W {α : Type} {x : Res α} {v : α} (h : W x () fun a _ => a = v) : x = .ok v := by
  obtain ⟨a, e, q⟩ := W_res.mp h
  rw [e, q]
theorem W_of_res {α : Type} {x : Res α} {v : α} {p : α → Unit → Prop} (e : x = .ok v) (h : p v ()) : W x () p := W_res.mpr ⟨v, e, h⟩
/-- a draw -/
theorem W_taken {ns : List Int} {row : Addr} {n : Int} {z : Dr} {p : D → Dr → Prop} (h0 : 0 < n) (h1 : n < 1073741824) (h : ∀ (v : Int) (z' : Dr), 0 ≤ v → v < n → p (.int v) z') : W (lk 2 (l2 (m_taken ns row)) [.ref row, .int n]) z p := by
  refine W_lk.mpr ⟨rfl, .int (takenS ns z n).1, (takenS ns z n).2, if_pos ⟨rfl, h0, h1⟩, ?_⟩
  have r := takenS_range ns z h0
  exact h _ _ r.1 r.2
/-- a comprehension that draws nothing -/
theorem lc_res {ρ : Sto} {tg : D → Sto → Option Sto} {ft : Sto → Res Bool} {fe : Sto → Res D} (f : D → Option D) {ds : List D} {p : List D → Unit → Prop}
    (h : ∀ d ∈ ds, ∃ ρ2, tg d ρ = some ρ2 ∧ ((∃ y, f d = some y ∧ ft ρ2 = .ok true ∧ fe ρ2 = .ok y) ∨ (f d = none ∧ ft ρ2 = .ok false))) (k : p (ds.filterMap f) ()) : W (lcGo (m := Res) ρ tg ft fe ds) () p := by
  induction ds generalizing p with
  | nil => exact W_lc_nil.mpr k
  | cons d ds ih =>
    obtain ⟨ρ2, e, c⟩ := h d List.mem_cons_self
    have h' := fun d' hd => h d' (List.mem_cons_of_mem d hd)
    refine W_lc_cons.mpr ⟨ρ2, e, ?_⟩
    rcases c with ⟨y, ef, e1, e2⟩ | ⟨ef, e1⟩
    · refine W_of_res e1 ?_
      rw [if_pos rfl]
      refine W_of_res e2 (ih h' ?_)
      rw [List.filterMap_cons, ef] at k
      exact k
    · refine W_of_res e1 ?_
      rw [if_neg Bool.false_ne_true]
      refine ih h' ?_
      rw [List.filterMap_cons, ef] at k
      exact k
theorem lc_gen {Z : Type} {m : Type → Type} [Eff m Z] {ρ : Sto} {z : Z} {tg : D → Sto → Option Sto} {ft : Sto → m Bool} {fe : Sto → m D} (f : D → Option D) {ds : List D} {p : List D → Z → Prop}
    (h : ∀ d ∈ ds, ∃ ρ2, tg d ρ = some ρ2 ∧ ((∃ y, f d = some y ∧ (∀ z (p : Bool → Z → Prop), p true z → W (ft ρ2) z p) ∧ (∀ z (p : D → Z → Prop), p y z → W (fe ρ2) z p)) ∨ (f d = none ∧ ∀ z (p : Bool → Z → Prop), p false z → W (ft ρ2) z p))) (k : p (ds.filterMap f) z) : W (lcGo ρ tg ft fe ds) z p := by
  induction ds generalizing p with
  | nil => exact W_lc_nil.mpr k
  | cons d ds ih =>
    obtain ⟨ρ2, e, c⟩ := h d List.mem_cons_self
    have h' := fun d' hd => h d' (List.mem_cons_of_mem d hd)
    refine W_lc_cons.mpr ⟨ρ2, e, ?_⟩
    rcases c with ⟨y, ef, e1, e2⟩ | ⟨ef, e1⟩
    · refine e1 _ _ ?_
      rw [if_pos rfl]
      refine e2 _ _ (ih h' ?_)
      rw [List.filterMap_cons, ef] at k
      exact k
    · refine e1 _ _ ?_
      rw [if_neg Bool.false_ne_true]
      refine ih h' ?_
      rw [List.filterMap_cons, ef] at k
      exact k
/-- .. that may draw, with no test -/
theorem lc_all {Z : Type} {m : Type → Type} [Eff m Z] {ρ : Sto} {z : Z} {tg : D → Sto → Option Sto} {fe : Sto → m D} (R : D → D → Prop) {ds : List D} {p : List D → Z → Prop}
    (h : ∀ d ∈ ds, ∀ z, ∃ ρ2, tg d ρ = some ρ2 ∧ W (fe ρ2) z fun y _ => R d y) (k : ∀ ys z', ys.length = ds.length → (∀ y ∈ ys, ∃ d ∈ ds, R d y) → p ys z') : W (lcGo ρ tg tYes' fe ds) z p := by
  induction ds generalizing p z with
  | nil => exact W_lc_nil.mpr (k [] z rfl fun y hy => nomatch hy)
  | cons d ds ih =>
    obtain ⟨ρ2, e, c⟩ := h d List.mem_cons_self z
    refine W_lc_cons.mpr ⟨ρ2, e, W_tYes.mpr ?_⟩
    rw [if_pos rfl]
    refine c.imp fun y z1 r => ih (fun d' hd => h d' (List.mem_cons_of_mem d hd)) fun ys z' hl hy => k _ z' (by rw [List.length_cons, List.length_cons, hl]) fun y' hy' => ?_
    rcases List.mem_cons.mp hy' with rfl | hy'
    · exact ⟨d, List.mem_cons_self, r⟩
    · obtain ⟨d', hd, r⟩ := hy y' hy'
      exact ⟨d', List.mem_cons_of_mem _ hd, r⟩
/-- ds, mapped one by one -/
theorem lc_map {ρ : Sto} {tg : D → Sto → Option Sto} {fe : Sto → Res D} (f : D → D) {ds : List D} {p : List D → Unit → Prop} (h : ∀ d ∈ ds, ∃ ρ2, tg d ρ = some ρ2 ∧ fe ρ2 = .ok (f d)) (k : p (ds.map f) ()) : W (lcGo (m := Res) ρ tg tYes' fe ds) () p := by
  refine lc_res (fun d => some (f d)) (fun d hd => ?_) ?_
  · obtain ⟨ρ2, e, e2⟩ := h d hd
    exact ⟨ρ2, e, .inl ⟨_, rfl, rfl, e2⟩⟩
  · rw [show (fun d => some (f d)) = some ∘ f from rfl, List.filterMap_eq_map]; exact k
/-- a loop over a range -/
theorem W_rng {Z : Type} {m : Type → Type} [Eff m Z] {ρ : Sto} {z : Z} {q : Fl → Z → Prop} {tg : D → Sto → Option Sto} {b : Sto → m Fl} {lo : Int} {n : Nat} (I : Nat → Sto → Z → Prop) (h0 : I 0 ρ z) (hq : ∀ ρ z, I n ρ z → q (.nx ρ) z)
    (step : ∀ (j : Nat) (ρ : Sto) (z : Z), j < n → I j ρ z → ∃ ρ1, tg (.int (lo + (j : Nat))) ρ = some ρ1 ∧ W (b ρ1) z (loopK (fun ρ' z => I (j + 1) ρ' z) q)) : W (forGo tg b (rangeD lo n) ρ) z q := by
  refine W_for (fun l _ ρ z => I l.length ρ z) h0 (fun ρ z h => hq ρ z (by rw [rangeD_length] at h; exact h)) fun l d r ρ z e h => ?_
  have hl : l.length < n := by
    have := congrArg List.length e
    rw [rangeD_length, List.length_append, List.length_cons] at this
    omega
  have hd : d = .int (lo + (l.length : Nat)) := by
    have h1 : (rangeD lo n)[l.length]? = some d := by rw [e]; simp
    rw [rangeD_get hl] at h1
    exact (Option.some.inj h1).symm
  subst hd
  obtain ⟨ρ1, e1, k⟩ := step l.length ρ z hl h
  refine ⟨ρ1, e1, k.imp fun fl z k => ?_⟩
  cases fl with
  | nx ρ' => rw [loopK_nx] at k ⊢; rw [List.length_append]; exact k
  | ct ρ' => rw [loopK_ct] at k ⊢; rw [List.length_append]; exact k
  | bk ρ' => exact k
  | rt d => exact k
theorem rng2_nat (a b : Nat) (h : a ≤ b) (hb : b < 1000000) : rng2 [.int a, .int b] = .ok (rangeD a (b - a)) := by
  simp only [rng2]
  rw [if_pos ⟨⟨by omega, by omega⟩, by omega, by omega⟩, show ((b : Int) - (a : Int)).toNat = b - a by omega]
theorem rng1_nat (b : Nat) (hb : b < 1000000) : rng1 [.int b] = .ok (rangeD 0 b) := by
  simp only [rng1]
  rw [if_pos ⟨by omega, by omega⟩, show ((b : Int)).toNat = b by omega]
/-! ### dicts -/
theorem getK_map {κ : Type} [DecidableEq κ] {α : Type} (k k' : κ) (x : α) : ∀ kvs : List (κ × α), getK (kvs.map fun kv => if kv.1 = k then (kv.1, x) else kv) k' = if k' = k then (if (kvs.any fun kv => decide (kv.1 = k)) = true then some x else none) else getK kvs k'
  | [] => by unfold getK; simp
  | (j, y) :: kvs => by
    have ih := getK_map k k' x kvs
    unfold getK at ih ⊢
    by_cases e : k' = k
    · subst e
      rw [if_pos rfl] at ih ⊢
      by_cases q : j = k'
      · subst q; simp
      · simp only [List.map_cons, if_neg q, List.find?_cons, decide_eq_false q, List.any_cons, Bool.false_or]
        exact ih
    · rw [if_neg e] at ih ⊢
      by_cases q : j = k
      · subst q
        simp only [List.map_cons, if_true, List.find?_cons, decide_eq_false (fun z => e (Eq.symm z) : ¬ j = k')]
        exact ih
      · simp only [List.map_cons, if_neg q, List.find?_cons]
        by_cases r : j = k'
        · simp [r]
        · simp only [decide_eq_false r]; exact ih
theorem getK_set {κ : Type} [DecidableEq κ] {α : Type} (kvs : List (κ × α)) (k k' : κ) (x : α) : getK (setK kvs k x) k' = if k' = k then some x else getK kvs k' := by
  unfold setK
  split
  · rename_i h
    rw [getK_map, if_pos h]
  · rename_i h
    unfold getK
    rw [List.find?_append]
    by_cases e : k' = k
    · subst e
      rw [if_pos rfl]
      have : (kvs.find? fun kv => decide (kv.1 = k')) = none := by
        rw [List.find?_eq_none]
        intro kv hkv hd
        exact h (List.any_eq_true.mpr ⟨kv, hkv, hd⟩)
      rw [this]; simp
    · rw [if_neg e]
      have : ([(k, x)].find? fun kv => decide (kv.1 = k')) = none := by
        have e2 : ¬ k = k' := fun z => e z.symm
        simp [e2]
      rw [this]; simp
theorem setK_len {κ : Type} [DecidableEq κ] {α : Type} (kvs : List (κ × α)) (k : κ) (x : α) : (setK kvs k x).length ≤ kvs.length + 1 := by
  unfold setK
  split
  · rw [List.length_map]; omega
  · rw [List.length_append]; exact Nat.le_refl _
end Vf

namespace Lw
open PySem L2 Vf
section
variable {P : Program} {w : World} {K : PySem.W.Frag} {mg : Str → Option Value} {base : Heap} {xr : Exc → Value → Option Addr → Hp → Hp → Prop}
def top (i : Nat) : Stmt := PySem.Challenge.pw_rateflows_k76_across_folds.main.body.getD i (.Pass ⟨0, 0, 0, 0⟩)
abbrev s_is_in : Stmt := top 6
abbrev s_size_of : Stmt := top 13
abbrev s_need_loop : Stmt := top 14
abbrev s_unrolled_in : Stmt := top 15
abbrev s_unrolled : Stmt := top 16
abbrev s_appear_in : Stmt := top 17
abbrev s_appearances : Stmt := top 18
abbrev s_deep_in : Stmt := top 19
abbrev s_depth : Stmt := top 20
abbrev s_best_fold : Stmt := top 22
abbrev s_folds_of : Stmt := top 21
abbrev s_need_short : Stmt := top 23
abbrev s_folded : Stmt := top 24
abbrev s_fold_size : Stmt := top 25
abbrev s_shows_fold : Stmt := top 26
abbrev s__law_unrolled : Stmt := top 28
abbrev s__law_taken : Stmt := top 29
abbrev s__law_loop : Stmt := top 30
abbrev s__law_order : Stmt := top 31
abbrev s_law : Stmt := top 32
/-- what stands in the module -/
structure Top (K : PySem.W.Frag) (mg : Str → Option Value) : Prop where
  z_bool : mg "bool" = none
  z_int : mg "int" = none
  z_isinstance : mg "isinstance" = none
  z_len : mg "len" = none
  z_list : mg "list" = none
  z_max : mg "max" = none
  z_range : mg "range" = none
  z_set : mg "set" = none
  z_tuple : mg "tuple" = none
  c_MOST_BOXES : ∃ t, mg "MOST_BOXES" = some (.int 8 t)
  c_MOST_TIMES : ∃ t, mg "MOST_TIMES" = some (.int 999 t)
  c_MOST_DEEP : ∃ t, mg "MOST_DEEP" = some (.int 8 t)
  c_MOST_LONG : ∃ t, mg "MOST_LONG" = some (.int 2000 t)
  c_MOST_FOLDED : ∃ t, mg "MOST_FOLDED" = some (.int 24 t)
  d_is_in : Stands K mg "is_in" s_is_in ["value", "least", "most"]
  d_size_of : Stands K mg "size_of" s_size_of ["value", "deep"]
  d_need_loop : Stands K mg "need_loop" s_need_loop ["value"]
  d_unrolled_in : Stands K mg "unrolled_in" s_unrolled_in ["loop"]
  d_unrolled : Stands K mg "unrolled" s_unrolled ["loop"]
  d_appear_in : Stands K mg "appear_in" s_appear_in ["loop"]
  d_appearances : Stands K mg "appearances" s_appearances ["loop"]
  d_deep_in : Stands K mg "deep_in" s_deep_in ["loop"]
  d_depth : Stands K mg "depth" s_depth ["loop"]
  d_folds_of : Stands K mg "folds_of" s_folds_of ["word"]
  d_best_fold : Stands K mg "best_fold" s_best_fold ["word", "at", "size", "best"]
  d_need_short : Stands K mg "need_short" s_need_short ["word"]
  d_folded : Stands K mg "folded" s_folded ["word"]
  d_fold_size : Stands K mg "fold_size" s_fold_size ["word"]
  d_shows_fold : Stands K mg "shows_fold" s_shows_fold ["word", "value"]
  d__law_unrolled : Stands K mg "_law_unrolled" s__law_unrolled ["_law_loop_here"]
  d__law_taken : Stands K mg "_law_taken" s__law_taken ["_law_row", "_law_many"]
  d__law_loop : Stands K mg "_law_loop" s__law_loop ["_law_row", "_law_deep", "_law_most"]
  d__law_order : Stands K mg "_law_order" s__law_order ["_law_row", "_law_many"]
  d_law : Stands K mg "law" s_law ["_law_script"]
theorem sc_is_in : FnScope ["value", "least", "most"] ["value", "least", "most"] (defScope s_is_in) := ⟨rfl, rfl, rfl, by decide +kernel, rfl, by decide +kernel, by decide +kernel⟩
theorem sc_size_of : FnScope ["value", "deep", "found", "item", "inner"] ["value", "deep"] (defScope s_size_of) := ⟨rfl, rfl, rfl, by decide +kernel, rfl, by decide +kernel, by decide +kernel⟩
theorem sc_need_loop : FnScope ["value"] ["value"] (defScope s_need_loop) := ⟨rfl, rfl, rfl, by decide +kernel, rfl, by decide +kernel, by decide +kernel⟩
theorem sc_unrolled_in : FnScope ["loop", "found", "item"] ["loop"] (defScope s_unrolled_in) := ⟨rfl, rfl, rfl, by decide +kernel, rfl, by decide +kernel, by decide +kernel⟩
theorem sc_unrolled : FnScope ["loop"] ["loop"] (defScope s_unrolled) := ⟨rfl, rfl, rfl, by decide +kernel, rfl, by decide +kernel, by decide +kernel⟩
theorem sc_appear_in : FnScope ["loop", "found", "item"] ["loop"] (defScope s_appear_in) := ⟨rfl, rfl, rfl, by decide +kernel, rfl, by decide +kernel, by decide +kernel⟩
theorem sc_appearances : FnScope ["loop"] ["loop"] (defScope s_appearances) := ⟨rfl, rfl, rfl, by decide +kernel, rfl, by decide +kernel, by decide +kernel⟩
theorem sc_deep_in : FnScope ["loop", "item"] ["loop"] (defScope s_deep_in) := ⟨rfl, rfl, rfl, by decide +kernel, rfl, by decide +kernel, by decide +kernel⟩
theorem sc_depth : FnScope ["loop"] ["loop"] (defScope s_depth) := ⟨rfl, rfl, rfl, by decide +kernel, rfl, by decide +kernel, by decide +kernel⟩
theorem sc_best_fold : FnScope ["word", "at", "size", "best", "found", "cut", "left", "right", "part", "inner"] ["word", "at", "size", "best"] (defScope s_best_fold) := ⟨rfl, rfl, rfl, by decide +kernel, rfl, by decide +kernel, by decide +kernel⟩
theorem sc_folds_of : FnScope ["word", "best", "size", "at"] ["word"] (defScope s_folds_of) := ⟨rfl, rfl, rfl, by decide +kernel, rfl, by decide +kernel, by decide +kernel⟩
theorem sc_need_short : FnScope ["word", "box"] ["word"] (defScope s_need_short) := ⟨rfl, rfl, rfl, by decide +kernel, rfl, by decide +kernel, by decide +kernel⟩
theorem sc_folded : FnScope ["word"] ["word"] (defScope s_folded) := ⟨rfl, rfl, rfl, by decide +kernel, rfl, by decide +kernel, by decide +kernel⟩
theorem sc_fold_size : FnScope ["word"] ["word"] (defScope s_fold_size) := ⟨rfl, rfl, rfl, by decide +kernel, rfl, by decide +kernel, by decide +kernel⟩
theorem sc_shows_fold : FnScope ["word", "value"] ["word", "value"] (defScope s_shows_fold) := ⟨rfl, rfl, rfl, by decide +kernel, rfl, by decide +kernel, by decide +kernel⟩
theorem sc__law_unrolled : FnScope ["_law_loop_here", "_law_found", "_law_item", "_law_turn"] ["_law_loop_here"] (defScope s__law_unrolled) := ⟨rfl, rfl, rfl, by decide +kernel, rfl, by decide +kernel, by decide +kernel⟩
theorem sc__law_taken : FnScope ["_law_row", "_law_many", "_law_found", "_law_cell"] ["_law_row", "_law_many"] (defScope s__law_taken) := ⟨rfl, rfl, rfl, by decide +kernel, rfl, by decide +kernel, by decide +kernel⟩
theorem sc__law_loop : FnScope ["_law_row", "_law_deep", "_law_most", "_law_found", "_law_turn", "_law_body"] ["_law_row", "_law_deep", "_law_most"] (defScope s__law_loop) := ⟨rfl, rfl, rfl, by decide +kernel, rfl, by decide +kernel, by decide +kernel⟩
theorem sc__law_order : FnScope ["_law_row", "_law_many", "_law_left", "_law_found", "_law_turn", "_law_at"] ["_law_row", "_law_many"] (defScope s__law_order) := ⟨rfl, rfl, rfl, by decide +kernel, rfl, by decide +kernel, by decide +kernel⟩
theorem ok_taken (T : Top K mg) (row script : Addr) (so : Option HO) (ns : List Int) (hrs : so ≠ none → row ≠ script) (hss : ∀ H : Hp, (∀ o, so = some o → H script = some o) → SqL K H script (ns.map V.int)) :
    Kept P w K mg base (L2.CX P w) "_law_taken" 1 2 (spZ (drawG row script so) xr 2 (lk 2 (l2 (m_taken ns row)))) :=
  taken_kept T.d__law_taken sc__law_taken hrs hss fun f cdv A outer s H E hr =>
    pss_cons (ps_if (pt_cmpR op_gt (pe_ix ix_seq (pv 0) pe_int (fun _ _ => rfl)) pe_int (nomark _))
        (pss_cons (ps_set (i := 2) sc__law_taken.nd rfl (.inl rfl) (pe_op op_modN (pe_callTy call_int1 rfl T.z_int (by decide +kernel) (pa_cons (pe_ix ix_seq (pv 0) pe_int (fun _ _ => rfl)) pa_nil)) (pv 1)))
          (pss_cons (ps_asg (pe_op op_fdivN (pe_ix ix_seq (pv 0) pe_int (fun _ _ => rfl)) (pv 1)) (pg_sub (pv 0) pe_int set_list)) (pss_one (ps_ret (pv 2))))) pss_nil)
    (pss_cons (ps_asg (pe_op op_add (pe_ix ix_seq (pv 0) pe_int (fun _ _ => rfl)) pe_int) (pg_sub (pv 0) pe_int set_list))
    (pss_cons (ps_if (pt_cmpR op_gt (pe_ix ix_seq (pv 0) pe_int (fun _ _ => rfl)) (pe_callB call_len_seq rfl T.z_len PySem.boot_len (pa_cons (pe_ix ix_seq (pv 0) pe_int (fun _ _ => rfl)) pa_nil)) (nomark _))
        (pss_cons (ps_asg (pe_op op_modN (pe_callTy call_int1 rfl T.z_int (by decide +kernel) (pa_cons (pe_op op_add (pe_op op_mul (pe_ix ix_seq (pv 0) pe_int (fun _ _ => rfl)) pe_int) pe_int) pa_nil)) pe_int) (pg_sub (pv 0) pe_int set_list))
          (pss_one (ps_ret (pe_op op_modN (pe_callTy call_int1 rfl T.z_int (by decide +kernel) (pa_cons (pe_op op_fdivN (pe_ix ix_seq (pv 0) pe_int (fun _ _ => rfl)) pe_int) pa_nil)) (pv 1))))) pss_nil)
    (pss_cons (ps_set (i := 3) sc__law_taken.nd rfl (.inl rfl) (pe_ix ix_seq (pe_ix ix_seq (pv 0) pe_int (fun _ _ => rfl)) (pe_op op_sub (pe_ix ix_seq (pv 0) pe_int (fun _ _ => rfl)) pe_int) (fun _ _ => rfl)))
    (pss_cons (ps_asg (pe_op op_modN (pe_callTy call_int1 rfl T.z_int (by decide +kernel) (pa_cons (pe_op op_add (pe_op op_add (pe_op op_mul (pe_ix ix_seq (pv 0) pe_int (fun _ _ => rfl)) pe_int) (pv 3)) pe_int) pa_nil)) pe_int) (pg_sub (pv 0) pe_int set_list))
    (pss_cons (ps_if (pt_cmpR op_ge (pv 3) (pe_op op_pow pe_int pe_int) (nomark _)) (pss_one (ps_asg (pe_op op_fdivN (pv 3) (pv 1)) (pg_sub (pv 0) pe_int set_list))) pss_nil)
    (pss_one (ps_ret (pe_op op_modN (pe_callTy call_int1 rfl T.z_int (by decide +kernel) (pa_cons (pv 3) pa_nil)) (pv 1)))))))))
def body_is_in : Sto → Res Fl :=
  (sRet ((eAnd (eN (f2 isiD) (aCons (eVar 0) (aCons (eC (.ty .int)) aNil))) (eAnd (eNot (eN (f2 isiD) (aCons (eVar 0) (aCons (eC (.ty .bool)) aNil)))) (eChain leD leD (eVar 1) (eVar 0) (eVar 2))))))
def m_is_in : List D → Res D := runB 3 (body_is_in)
theorem ok_is_in (T : Top K mg) : Kept P w K mg base (L2.CX P w) "is_in" 1 3 (spZ g0 xr 3 (lk 3 (m_is_in))) := by
  refine kept_by T.d_is_in sc_is_in rfl (fun ds h => lk_on _ _ _ h) fun f cdv A outer s H E hr => ?_
  delta body_is_in
  exact (evss_one (evs_ret ((ev_and (x_isi T.z_isinstance (a_cons ((x_v 0).toB) (a_cons ((x_ty .int T.z_int).toB) eva_nil))) (ev_and (ev_not (x_isi T.z_isinstance (a_cons ((x_v 0).toB) (a_cons ((x_ty .bool T.z_bool).toB) eva_nil)))) (ev_one (x_lele ((x_v 1).toB) ((x_v 0).toB) ((x_v 2).toB))))))))
def lp_size_of_1 (self : List D → Res D) : Sto → Res Fl :=
  (sSeq (sIf (tV (eN (lk 3 (m_is_in)) (aCons (eVar 3) (aCons (eC (.int 0)) (aCons (e2 subD (eC (.int 8)) (eC (.int 1))) aNil))))) (sAug 2 addI (eC (.int 1))) (sIf ((tAnd' (tV (eN (f2 isiD) (aCons (eVar 3) (aCons (eC (.ty .tuple)) aNil)))) (tAnd' (tV (e2 eqD (eN (f1 lenSD) (aCons (eVar 3) aNil)) (eC (.int 2)))) (tAnd' (tV (eN (lk 3 (m_is_in)) (aCons (e2 ixD (eVar 3) (eC (.int 0))) (aCons (eC (.int 2)) (aCons (eC (.int 999)) aNil))))) (tV (e2 gtD (eVar 1) (eC (.int 0)))))))) (sSeq (sAsg (eN (lk 2 (self)) (aCons (e2 ixD (eVar 3) (eC (.int 1))) (aCons (e2 subD (eVar 1) (eC (.int 1))) aNil))) (gN 4))
    (sSeq (sIf ((tOr' (tV (e2 isD (eVar 4) (eC .non))) (tV (e2 eqD (eVar 4) (eC (.int 0)))))) (sRet (eC .non)) sNil)
    (sAug 2 addI (e2 mulD (e2 ixD (eVar 3) (eC (.int 0))) (eVar 4))))) (sRet (eC .non))))
    (sIf (tV (e2 gtD (eVar 2) (eC (.int 2000)))) (sRet (eC .non)) sNil))
def body_size_of (self : List D → Res D) : Sto → Res Fl :=
  (sSeq (sIf (tNot' (tV (eN (f2 isiD) (aCons (eVar 0) (aCons (eC (.ty .tuple)) aNil))))) (sRet (eC .non)) sNil)
    (sSeq (sAsg (eC (.int 0)) (gN 2))
    (sSeq (sFor (iS (eVar 0)) (gN 3) (lp_size_of_1 self))
    (sRet (eVar 2)))))
def m_size_of : Nat → List D → Res D
  | 0 => fun _ => bad
  | k + 1 => runB 5 (body_size_of (m_size_of k))
theorem ok_size_of (T : Top K mg) : ∀ k : Nat, Kept P w K mg base (L2.CX P w) "size_of" (1 + k) 2 (spZ g0 xr 2 (lk 2 (m_size_of k)))
  | 0 => kept_bad T.d_size_of rfl (fun ds => by unfold lk m_size_of; split <;> rfl)
  | k + 1 => by
    have ih := ok_size_of T k
    refine kept_by T.d_size_of sc_size_of rfl (fun ds h => lk_on _ _ _ h) fun f cdv A outer s H E hr => ?_
    delta body_size_of
    exact (evss_cons (evs_if (evt_not (t_val (x_isi T.z_isinstance (a_cons ((x_v 0).toB) (a_cons ((x_ty .tuple T.z_tuple).toB) eva_nil))))) (evss_one (evs_ret (ev_non))) evss_nil)
    (evss_cons (s_set 2 (ev_int))
    (evss_cons (s_for (fun _ => passes_of rfl) (evi_seq (x_v 0)) (g_v 3) (evss_cons (evs_if (t_val (x_call (hr := (by omega : (1 : Nat) ≤ 1 + k)) (ok_is_in T) (e_cons (x_v 3) (e_cons (ev_int) (e_cons (x_sub ((x_g T.c_MOST_BOXES).toB) ((ev_int).toB)) evaf_nil))))) (evss_one (s_iadd 2 (ev_int))) (evss_one (evs_if ((evw_and (t_val (x_isi T.z_isinstance (a_cons ((x_v 3).toB) (a_cons ((x_ty .tuple T.z_tuple).toB) eva_nil)))) (evw_and (t_eq ((x_len T.z_len (a_cons ((x_v 3).toB) eva_nil)).toB) ((ev_int).toB)) (evw_and (t_val (x_call (hr := (by omega : (1 : Nat) ≤ 1 + k)) (ok_is_in T) (e_cons (x_ix ((x_v 3).toB) ((ev_int).toB)) (e_cons (ev_int) (e_cons (x_g T.c_MOST_TIMES) evaf_nil))))) (evw_and1 (t_gt ((x_v 1).toB) ((ev_int).toB)))))).t) (evss_cons (s_set 4 (x_call (hr := Nat.le_refl _) ih (e_cons (x_ix ((x_v 3).toB) ((ev_int).toB)) (e_cons (x_sub ((x_v 1).toB) ((ev_int).toB)) evaf_nil))))
    (evss_cons (evs_if ((evw_or (t_is ((x_v 4).toB) ((ev_non).toB)) (evw_or1 (t_eq ((x_v 4).toB) ((ev_int).toB)))).t) (evss_one (evs_ret (ev_non))) evss_nil)
    (evss_one (s_iadd 2 (x_mul ((x_ix ((x_v 3).toB) ((ev_int).toB)).toB) ((x_v 4).toB)))))) (evss_one (evs_ret (ev_non))))))
    (evss_one (evs_if (t_gt ((x_v 2).toB) ((x_g T.c_MOST_LONG).toB)) (evss_one (evs_ret (ev_non))) evss_nil))))
    (evss_one (evs_ret (x_v 2))))))
def body_need_loop : Sto → Res Fl :=
  (sIf (tV (e2 isD (eN (lk 2 (m_size_of 12)) (aCons (eVar 0) (aCons (eC (.int 8)) aNil))) (eC .non))) (sNever) sNil)
def m_need_loop : List D → Res D := runB 1 (body_need_loop)
theorem ok_need_loop (T : Top K mg) : Kept P w K mg base (L2.CX P w) "need_loop" 14 1 (spZ g0 xr 1 (lk 1 (m_need_loop))) := by
  refine kept_by T.d_need_loop sc_need_loop rfl (fun ds h => lk_on _ _ _ h) fun f cdv A outer s H E hr => ?_
  delta body_need_loop
  exact (evss_one (evs_if (t_is ((x_call (ok_size_of T 12) (e_cons (x_v 0) (e_cons (x_g T.c_MOST_DEEP) evaf_nil))).toB) ((ev_non).toB)) (evss_one (evs_never)) evss_nil))
def lp_unrolled_in_1 (self : List D → Res D) : Sto → Res Fl :=
  (sAsg (e2 addD (eVar 1) (eIf (tV (eN (f2 isiD) (aCons (eVar 2) (aCons (eC (.ty .tuple)) aNil)))) (e2 mulD (eN (lk 1 (self)) (aCons (e2 ixD (eVar 2) (eC (.int 1))) aNil)) (e2 ixD (eVar 2) (eC (.int 0)))) (eN tupD (aCons (eVar 2) aNil)))) (gN 1))
def body_unrolled_in (self : List D → Res D) : Sto → Res Fl :=
  (sSeq (sAsg (eN tupD aNil) (gN 1))
    (sSeq (sFor (iS (eVar 0)) (gN 2) (lp_unrolled_in_1 self))
    (sRet (eVar 1))))
def m_unrolled_in : Nat → List D → Res D
  | 0 => fun _ => bad
  | k + 1 => runB 3 (body_unrolled_in (m_unrolled_in k))
theorem ok_unrolled_in (T : Top K mg) : ∀ k : Nat, Kept P w K mg base (L2.CX P w) "unrolled_in" (0 + k) 1 (spZ g0 xr 1 (lk 1 (m_unrolled_in k)))
  | 0 => kept_bad T.d_unrolled_in rfl (fun ds => by unfold lk m_unrolled_in; split <;> rfl)
  | k + 1 => by
    have ih := ok_unrolled_in T k
    refine kept_by T.d_unrolled_in sc_unrolled_in rfl (fun ds h => lk_on _ _ _ h) fun f cdv A outer s H E hr => ?_
    delta body_unrolled_in
    exact (evss_cons (s_set 1 (ev_tup evaf_nil))
    (evss_cons (s_for (fun _ => passes_of rfl) (evi_seq (x_v 0)) (g_v 2) (evss_one (s_set 1 (x_add ((x_v 1).toB) ((ev_if (t_val (x_isi T.z_isinstance (a_cons ((x_v 2).toB) (a_cons ((x_ty .tuple T.z_tuple).toB) eva_nil)))) (x_mul ((x_call (hr := Nat.le_refl _) ih (e_cons (x_ix ((x_v 2).toB) ((ev_int).toB)) evaf_nil)).toB) ((x_ix ((x_v 2).toB) ((ev_int).toB)).toB)) (ev_tup (e_cons (x_v 2) evaf_nil))).toB)))))
    (evss_one (evs_ret (x_v 1)))))
def body_unrolled : Sto → Res Fl :=
  (sSeq (sExpr (eN (lk 1 (m_need_loop)) (aCons (eVar 0) aNil)))
    (sRet (eN (lk 1 (m_unrolled_in 12)) (aCons (eVar 0) aNil))))
def m_unrolled : List D → Res D := runB 1 (body_unrolled)
theorem ok_unrolled (T : Top K mg) : Kept P w K mg base (L2.CX P w) "unrolled" 15 1 (spZ g0 xr 1 (lk 1 (m_unrolled))) := by
  refine kept_by T.d_unrolled sc_unrolled rfl (fun ds h => lk_on _ _ _ h) fun f cdv A outer s H E hr => ?_
  delta body_unrolled
  exact (evss_cons (s_expr (x_call (ok_need_loop T) (e_cons (x_v 0) evaf_nil)))
    (evss_one (evs_ret (x_call (ok_unrolled_in T 12) (e_cons (x_v 0) evaf_nil)))))
def lp_appear_in_1 (self : List D → Res D) : Sto → Res Fl :=
  (sAsg (e2 addD (eVar 1) (eIf (tV (eN (f2 isiD) (aCons (eVar 2) (aCons (eC (.ty .tuple)) aNil)))) (eN (lk 1 (self)) (aCons (e2 ixD (eVar 2) (eC (.int 1))) aNil)) (eN tupD (aCons (eVar 2) aNil)))) (gN 1))
def body_appear_in (self : List D → Res D) : Sto → Res Fl :=
  (sSeq (sAsg (eN tupD aNil) (gN 1))
    (sSeq (sFor (iS (eVar 0)) (gN 2) (lp_appear_in_1 self))
    (sRet (eVar 1))))
def m_appear_in : Nat → List D → Res D
  | 0 => fun _ => bad
  | k + 1 => runB 3 (body_appear_in (m_appear_in k))
theorem ok_appear_in (T : Top K mg) : ∀ k : Nat, Kept P w K mg base (L2.CX P w) "appear_in" (0 + k) 1 (spZ g0 xr 1 (lk 1 (m_appear_in k)))
  | 0 => kept_bad T.d_appear_in rfl (fun ds => by unfold lk m_appear_in; split <;> rfl)
  | k + 1 => by
    have ih := ok_appear_in T k
    refine kept_by T.d_appear_in sc_appear_in rfl (fun ds h => lk_on _ _ _ h) fun f cdv A outer s H E hr => ?_
    delta body_appear_in
    exact (evss_cons (s_set 1 (ev_tup evaf_nil))
    (evss_cons (s_for (fun _ => passes_of rfl) (evi_seq (x_v 0)) (g_v 2) (evss_one (s_set 1 (x_add ((x_v 1).toB) ((ev_if (t_val (x_isi T.z_isinstance (a_cons ((x_v 2).toB) (a_cons ((x_ty .tuple T.z_tuple).toB) eva_nil)))) (x_call (hr := Nat.le_refl _) ih (e_cons (x_ix ((x_v 2).toB) ((ev_int).toB)) evaf_nil)) (ev_tup (e_cons (x_v 2) evaf_nil))).toB)))))
    (evss_one (evs_ret (x_v 1)))))
def body_appearances : Sto → Res Fl :=
  (sSeq (sExpr (eN (lk 1 (m_need_loop)) (aCons (eVar 0) aNil)))
    (sRet (eN (lk 1 (m_appear_in 12)) (aCons (eVar 0) aNil))))
def m_appearances : List D → Res D := runB 1 (body_appearances)
theorem ok_appearances (T : Top K mg) : Kept P w K mg base (L2.CX P w) "appearances" 15 1 (spZ g0 xr 1 (lk 1 (m_appearances))) := by
  refine kept_by T.d_appearances sc_appearances rfl (fun ds h => lk_on _ _ _ h) fun f cdv A outer s H E hr => ?_
  delta body_appearances
  exact (evss_cons (s_expr (x_call (ok_need_loop T) (e_cons (x_v 0) evaf_nil)))
    (evss_one (evs_ret (x_call (ok_appear_in T 12) (e_cons (x_v 0) evaf_nil)))))
def body_deep_in (self : List D → Res D) : Sto → Res Fl :=
  (sRet (eN (f1 maxD) (aCons (e2 addD (eN lstD (aCons (eC (.int 0)) aNil)) (eLc (iS (eVar 0)) (gN 1) [1] (tV (eN (f2 isiD) (aCons (eVar 1) (aCons (eC (.ty .tuple)) aNil)))) (e2 addD (eC (.int 1)) (eN (lk 1 (self)) (aCons (e2 ixD (eVar 1) (eC (.int 1))) aNil))))) aNil)))
def m_deep_in : Nat → List D → Res D
  | 0 => fun _ => bad
  | k + 1 => runB 2 (body_deep_in (m_deep_in k))
theorem ok_deep_in (T : Top K mg) : ∀ k : Nat, Kept P w K mg base (L2.CX P w) "deep_in" (0 + k) 1 (spZ g0 xr 1 (lk 1 (m_deep_in k)))
  | 0 => kept_bad T.d_deep_in rfl (fun ds => by unfold lk m_deep_in; split <;> rfl)
  | k + 1 => by
    have ih := ok_deep_in T k
    refine kept_by T.d_deep_in sc_deep_in rfl (fun ds h => lk_on _ _ _ h) fun f cdv A outer s H E hr => ?_
    delta body_deep_in
    exact (evss_one (evs_ret (x_max T.z_max (a_cons ((x_add ((eo_lst (e_cons (ev_int) evaf_nil)).toB) ((o_lc [("item", 1)] (evib_seq ((x_v 0).toB)) (g_v 1) (evts_one (t_val (x_isi T.z_isinstance (a_cons ((x_v 1).toB) (a_cons ((x_ty .tuple T.z_tuple).toB) eva_nil))))) (x_add ((ev_int).toB) ((x_call (hr := Nat.le_refl _) ih (e_cons (x_ix ((x_v 1).toB) ((ev_int).toB)) evaf_nil)).toB))).toB)).toB) eva_nil))))
def body_depth : Sto → Res Fl :=
  (sSeq (sExpr (eN (lk 1 (m_need_loop)) (aCons (eVar 0) aNil)))
    (sRet (eN (lk 1 (m_deep_in 12)) (aCons (eVar 0) aNil))))
def m_depth : List D → Res D := runB 1 (body_depth)
theorem ok_depth (T : Top K mg) : Kept P w K mg base (L2.CX P w) "depth" 15 1 (spZ g0 xr 1 (lk 1 (m_depth))) := by
  refine kept_by T.d_depth sc_depth rfl (fun ds h => lk_on _ _ _ h) fun f cdv A outer s H E hr => ?_
  delta body_depth
  exact (evss_cons (s_expr (x_call (ok_need_loop T) (e_cons (x_v 0) evaf_nil)))
    (evss_one (evs_ret (x_call (ok_deep_in T 12) (e_cons (x_v 0) evaf_nil)))))
def lp_best_fold_1 : Sto → Res Fl :=
  (sSeq (sPar2 6 7 false false (e2 ixD (eVar 3) (eN tupD (aCons (eVar 1) (aCons (eVar 5) aNil)))) (e2 ixD (eVar 3) (eN tupD (aCons (e2 addD (eVar 1) (eVar 5)) (aCons (e2 subD (eVar 2) (eVar 5)) aNil)))))
    (sIf ((tOr' (tV (e2 isD (eVar 4) (eC .non))) (tV (e2 ltD (e2 addD (e2 ixD (eVar 6) (eC (.int 0))) (e2 ixD (eVar 7) (eC (.int 0)))) (e2 ixD (eVar 4) (eC (.int 0))))))) (sAsg (eN tupD (aCons (e2 addD (e2 ixD (eVar 6) (eC (.int 0))) (e2 ixD (eVar 7) (eC (.int 0)))) (aCons (e2 addD (e2 ixD (eVar 6) (eC (.int 1))) (e2 ixD (eVar 7) (eC (.int 1)))) aNil))) (gN 4)) sNil))
def lp_best_fold_2 : Sto → Res Fl :=
  (sIf ((tAnd' (tV (e2 eqD (e2 modD (eVar 2) (eVar 8)) (eC (.int 0)))) (tV (e2 eqD (e2 mulD (eSl (eVar 0) (pSome (eVar 1)) (pSome (e2 addD (eVar 1) (eVar 8)))) (e2 fdivD (eVar 2) (eVar 8))) (eSl (eVar 0) (pSome (eVar 1)) (pSome (e2 addD (eVar 1) (eVar 2)))))))) (sSeq (sAsg (e2 ixD (eVar 3) (eN tupD (aCons (eVar 1) (aCons (eVar 8) aNil)))) (gN 9))
    (sIf ((tAnd' (tV (e2 ltD (e2 ixD (eVar 9) (eC (.int 0))) (e2 ixD (eVar 4) (eC (.int 0))))) (tAnd' (tV (e2 leD (e2 fdivD (eVar 2) (eVar 8)) (eC (.int 999)))) (tV (e2 ltD (eN (lk 1 (m_deep_in 12)) (aCons (e2 ixD (eVar 9) (eC (.int 1))) aNil)) (eC (.int 8))))))) (sAsg (eN tupD (aCons (e2 ixD (eVar 9) (eC (.int 0))) (aCons (eN tupD (aCons (eN tupD (aCons (e2 fdivD (eVar 2) (eVar 8)) (aCons (e2 ixD (eVar 9) (eC (.int 1))) aNil))) aNil)) aNil))) (gN 4)) sNil)) sNil)
def body_best_fold : Sto → Res Fl :=
  (sSeq (sIf (tV (e2 eqD (eVar 2) (eC (.int 1)))) (sRet (eN tupD (aCons (eC (.int 1)) (aCons (eN tupD (aCons (e2 ixD (eVar 0) (eVar 1)) aNil)) aNil)))) sNil)
    (sSeq (sAsg (eC .non) (gN 4))
    (sSeq (sFor (iR rng2 (aCons (eC (.int 1)) (aCons (eVar 2) aNil))) (gN 5) (lp_best_fold_1))
    (sSeq (sFor (iR rng2 (aCons (eC (.int 1)) (aCons (eVar 2) aNil))) (gN 8) (lp_best_fold_2))
    (sRet (eVar 4))))))
def m_best_fold : List D → Res D := runB 10 (body_best_fold)
theorem ok_best_fold (T : Top K mg) : Kept P w K mg base (L2.CX P w) "best_fold" 13 4 (spZ g0 xr 4 (lk 4 (m_best_fold))) := by
  refine kept_by T.d_best_fold sc_best_fold rfl (fun ds h => lk_on _ _ _ h) fun f cdv A outer s H E hr => ?_
  delta body_best_fold
  exact (evss_cons (evs_if (t_eq ((x_v 2).toB) ((ev_int).toB)) (evss_one (evs_ret (ev_tup (e_cons (ev_int) (e_cons (ev_tup (e_cons (x_ix ((x_v 0).toB) ((x_v 1).toB)) evaf_nil)) evaf_nil))))) evss_nil)
    (evss_cons (s_set 4 (ev_non))
    (evss_cons (s_for (fun _ => passes_of rfl) (i_range2 T.z_range (a_cons ((ev_int).toB) (a_cons ((x_v 2).toB) eva_nil))) (g_v 5) (evss_cons (s_par2 6 7 ((x_ix ((x_v 3).toB) ((ev_tup (e_cons (x_v 1) (e_cons (x_v 5) evaf_nil))).toB)).md) ((x_ix ((x_v 3).toB) ((ev_tup (e_cons (x_add ((x_v 1).toB) ((x_v 5).toB)) (e_cons (x_sub ((x_v 2).toB) ((x_v 5).toB)) evaf_nil))).toB)).md))
    (evss_one (evs_if ((evw_or (t_is ((x_v 4).toB) ((ev_non).toB)) (evw_or1 (t_lt ((x_add ((x_ix ((x_v 6).toB) ((ev_int).toB)).toB) ((x_ix ((x_v 7).toB) ((ev_int).toB)).toB)).toB) ((x_ix ((x_v 4).toB) ((ev_int).toB)).toB)))).t) (evss_one (s_set 4 (ev_tup (e_cons (x_add ((x_ix ((x_v 6).toB) ((ev_int).toB)).toB) ((x_ix ((x_v 7).toB) ((ev_int).toB)).toB)) (e_cons (x_add ((x_ix ((x_v 6).toB) ((ev_int).toB)).toB) ((x_ix ((x_v 7).toB) ((ev_int).toB)).toB)) evaf_nil))))) evss_nil))))
    (evss_cons (s_for (fun _ => passes_of rfl) (i_range2 T.z_range (a_cons ((ev_int).toB) (a_cons ((x_v 2).toB) eva_nil))) (g_v 8) (evss_one (evs_if ((evw_and (t_eq ((x_mod ((x_v 2).toB) ((x_v 8).toB)).toB) ((ev_int).toB)) (evw_and1 (t_eq ((x_mul ((ev_slice ((x_v 0).toB) (evp_some (x_v 1)) (evp_some (x_add ((x_v 1).toB) ((x_v 8).toB)))).toB) ((x_fdiv ((x_v 2).toB) ((x_v 8).toB)).toB)).toB) ((ev_slice ((x_v 0).toB) (evp_some (x_v 1)) (evp_some (x_add ((x_v 1).toB) ((x_v 2).toB)))).toB)))).t) (evss_cons (s_set 9 (x_ix ((x_v 3).toB) ((ev_tup (e_cons (x_v 1) (e_cons (x_v 8) evaf_nil))).toB)))
    (evss_one (evs_if ((evw_and (t_lt ((x_ix ((x_v 9).toB) ((ev_int).toB)).toB) ((x_ix ((x_v 4).toB) ((ev_int).toB)).toB)) (evw_and (t_le ((x_fdiv ((x_v 2).toB) ((x_v 8).toB)).toB) ((x_g T.c_MOST_TIMES).toB)) (evw_and1 (t_lt ((x_call (ok_deep_in T 12) (e_cons (x_ix ((x_v 9).toB) ((ev_int).toB)) evaf_nil)).toB) ((x_g T.c_MOST_DEEP).toB))))).t) (evss_one (s_set 4 (ev_tup (e_cons (x_ix ((x_v 9).toB) ((ev_int).toB)) (e_cons (ev_tup (e_cons (ev_tup (e_cons (x_fdiv ((x_v 2).toB) ((x_v 8).toB)) (e_cons (x_ix ((x_v 9).toB) ((ev_int).toB)) evaf_nil))) evaf_nil)) evaf_nil))))) evss_nil))) evss_nil)))
    (evss_one (evs_ret (x_v 4)))))))
def lp_folds_of_1 : Sto → Res Fl :=
  (sSetD 1 (eN tupD (aCons (eVar 3) (aCons (eVar 2) aNil))) (eLend 1 (eN (lk 4 (m_best_fold)) (aCons (eVar 0) (aCons (eVar 3) (aCons (eVar 2) (aCons (eVar 1) aNil)))))))
def lp_folds_of_2 : Sto → Res Fl :=
  (sFor (iR rng1 (aCons (e2 addD (e2 subD (eN (f1 lenSD) (aCons (eVar 0) aNil)) (eVar 2)) (eC (.int 1))) aNil)) (gN 3) (lp_folds_of_1))
def body_folds_of : Sto → Res Fl :=
  (sSeq (sOwn 1 (dtD))
    (sSeq (sFor (iR rng2 (aCons (eC (.int 1)) (aCons (e2 addD (eN (f1 lenSD) (aCons (eVar 0) aNil)) (eC (.int 1))) aNil))) (gN 2) (lp_folds_of_2))
    (sFrz 1 (sRet (eVar 1)))))
def m_folds_of : List D → Res D := runB 4 (body_folds_of)
theorem ok_folds_of (T : Top K mg) : Kept P w K mg base (L2.CX P w) "folds_of" 14 1 (spZ g0 xr 1 (lk 1 (m_folds_of))) := by
  refine kept_by T.d_folds_of sc_folds_of rfl (fun ds h => lk_on _ _ _ h) fun f cdv A outer s H E hr => ?_
  delta body_folds_of
  exact (evss_cons (s_own 1 (eo_dt))
    (evss_cons (s_for (fun _ => passes_of rfl) (i_range2 T.z_range (a_cons ((ev_int).toB) (a_cons ((x_add ((x_len T.z_len (a_cons ((x_v 0).toB) eva_nil)).toB) ((ev_int).toB)).toB) eva_nil))) (g_v 2) (evss_one (s_for (fun _ => passes_of rfl) (i_range1 T.z_range (a_cons ((x_add ((x_sub ((x_len T.z_len (a_cons ((x_v 0).toB) eva_nil)).toB) ((x_v 2).toB)).toB) ((ev_int).toB)).toB) eva_nil)) (g_v 3) (evss_one (s_setD 1 (ev_lend 1 (x_call (ok_best_fold T) (e_cons (x_v 0) (e_cons (x_v 3) (e_cons (x_v 2) (e_cons (x_v 1) evaf_nil)))))) (ev_tup (e_cons (x_v 3) (e_cons (x_v 2) evaf_nil))))))))
    (evss_one (evs_frz 1 (evs_ret (x_v 1))))))
def body_need_short : Sto → Res Fl :=
  (sSeq (sIf ((tOr' (tNot' (tV (eN (f2 isiD) (aCons (eVar 0) (aCons (eC (.ty .tuple)) aNil))))) (tV (e2 neD (eLc (iS (eVar 0)) (gN 1) [1] (tNot' (tV (eN (lk 3 (m_is_in)) (aCons (eVar 1) (aCons (eC (.int 0)) (aCons (e2 subD (eC (.int 8)) (eC (.int 1))) aNil)))))) (eVar 1)) (eN lstD aNil))))) (sNever) sNil)
    (sIf (tV (e2 gtD (eN (f1 lenSD) (aCons (eVar 0) aNil)) (eC (.int 24)))) (sNever) sNil))
def m_need_short : List D → Res D := runB 2 (body_need_short)
theorem ok_need_short (T : Top K mg) : Kept P w K mg base (L2.CX P w) "need_short" 2 1 (spZ g0 xr 1 (lk 1 (m_need_short))) := by
  refine kept_by T.d_need_short sc_need_short rfl (fun ds h => lk_on _ _ _ h) fun f cdv A outer s H E hr => ?_
  delta body_need_short
  exact (evss_cons (evs_if ((evw_or (evt_not (t_val (x_isi T.z_isinstance (a_cons ((x_v 0).toB) (a_cons ((x_ty .tuple T.z_tuple).toB) eva_nil))))) (evw_or1 (t_ne ((o_lc [("box", 1)] (evib_seq ((x_v 0).toB)) (g_v 1) (evts_one (evt_not (t_val (x_call (ok_is_in T) (e_cons (x_v 1) (e_cons (ev_int) (e_cons (x_sub ((x_g T.c_MOST_BOXES).toB) ((ev_int).toB)) evaf_nil))))))) (x_v 1)).toB) ((eo_lst evaf_nil).toB)))).t) (evss_one (evs_never)) evss_nil)
    (evss_one (evs_if (t_gt ((x_len T.z_len (a_cons ((x_v 0).toB) eva_nil)).toB) ((x_g T.c_MOST_FOLDED).toB)) (evss_one (evs_never)) evss_nil)))
def body_folded : Sto → Res Fl :=
  (sSeq (sExpr (eN (lk 1 (m_need_short)) (aCons (eVar 0) aNil)))
    (sRet (eIf (tV (e2 neD (eVar 0) (eN tupD aNil))) (e2 ixD (e2 ixD (eN (lk 1 (m_folds_of)) (aCons (eVar 0) aNil)) (eN tupD (aCons (eC (.int 0)) (aCons (eN (f1 lenSD) (aCons (eVar 0) aNil)) aNil)))) (eC (.int 1))) (eN tupD aNil))))
def m_folded : List D → Res D := runB 1 (body_folded)
theorem ok_folded (T : Top K mg) : Kept P w K mg base (L2.CX P w) "folded" 15 1 (spZ g0 xr 1 (lk 1 (m_folded))) := by
  refine kept_by T.d_folded sc_folded rfl (fun ds h => lk_on _ _ _ h) fun f cdv A outer s H E hr => ?_
  delta body_folded
  exact (evss_cons (s_expr (x_call (ok_need_short T) (e_cons (x_v 0) evaf_nil)))
    (evss_one (evs_ret (ev_if (t_ne ((x_v 0).toB) ((ev_tup evaf_nil).toB)) (x_ix ((x_ix ((x_call (ok_folds_of T) (e_cons (x_v 0) evaf_nil)).toB) ((ev_tup (e_cons (ev_int) (e_cons (x_len T.z_len (a_cons ((x_v 0).toB) eva_nil)) evaf_nil))).toB)).toB) ((ev_int).toB)) (ev_tup evaf_nil)))))
def body_fold_size : Sto → Res Fl :=
  (sSeq (sExpr (eN (lk 1 (m_need_short)) (aCons (eVar 0) aNil)))
    (sRet (eIf (tV (e2 neD (eVar 0) (eN tupD aNil))) (e2 ixD (e2 ixD (eN (lk 1 (m_folds_of)) (aCons (eVar 0) aNil)) (eN tupD (aCons (eC (.int 0)) (aCons (eN (f1 lenSD) (aCons (eVar 0) aNil)) aNil)))) (eC (.int 0))) (eC (.int 0)))))
def m_fold_size : List D → Res D := runB 1 (body_fold_size)
theorem ok_fold_size (T : Top K mg) : Kept P w K mg base (L2.CX P w) "fold_size" 15 1 (spZ g0 xr 1 (lk 1 (m_fold_size))) := by
  refine kept_by T.d_fold_size sc_fold_size rfl (fun ds h => lk_on _ _ _ h) fun f cdv A outer s H E hr => ?_
  delta body_fold_size
  exact (evss_cons (s_expr (x_call (ok_need_short T) (e_cons (x_v 0) evaf_nil)))
    (evss_one (evs_ret (ev_if (t_ne ((x_v 0).toB) ((ev_tup evaf_nil).toB)) (x_ix ((x_ix ((x_call (ok_folds_of T) (e_cons (x_v 0) evaf_nil)).toB) ((ev_tup (e_cons (ev_int) (e_cons (x_len T.z_len (a_cons ((x_v 0).toB) eva_nil)) evaf_nil))).toB)).toB) ((ev_int).toB)) (ev_int)))))
def body_shows_fold : Sto → Res Fl :=
  (sSeq (sExpr (eN (lk 1 (m_need_short)) (aCons (eVar 0) aNil)))
    (sSeq (sIf ((tOr' (tV (e2 neD (eN (lk 2 (m_size_of 12)) (aCons (eVar 1) (aCons (eC (.int 8)) aNil))) (eN (f1 lenSD) (aCons (eVar 0) aNil)))) (tV (e2 neD (eN (lk 1 (m_unrolled_in 12)) (aCons (eVar 1) aNil)) (eVar 0))))) (sRet (eC (.bl false))) sNil)
    (sRet (e2 eqD (eN (f1 lenSD) (aCons (eN (lk 1 (m_appear_in 12)) (aCons (eVar 1) aNil)) aNil)) (eIf (tV (e2 neD (eVar 0) (eN tupD aNil))) (e2 ixD (e2 ixD (eN (lk 1 (m_folds_of)) (aCons (eVar 0) aNil)) (eN tupD (aCons (eC (.int 0)) (aCons (eN (f1 lenSD) (aCons (eVar 0) aNil)) aNil)))) (eC (.int 0))) (eC (.int 0)))))))
def m_shows_fold : List D → Res D := runB 2 (body_shows_fold)
theorem ok_shows_fold (T : Top K mg) : Kept P w K mg base (L2.CX P w) "shows_fold" 15 2 (spZ g0 xr 2 (lk 2 (m_shows_fold))) := by
  refine kept_by T.d_shows_fold sc_shows_fold rfl (fun ds h => lk_on _ _ _ h) fun f cdv A outer s H E hr => ?_
  delta body_shows_fold
  exact (evss_cons (s_expr (x_call (ok_need_short T) (e_cons (x_v 0) evaf_nil)))
    (evss_cons (evs_if ((evw_or (t_ne ((x_call (ok_size_of T 12) (e_cons (x_v 1) (e_cons (x_g T.c_MOST_DEEP) evaf_nil))).toB) ((x_len T.z_len (a_cons ((x_v 0).toB) eva_nil)).toB)) (evw_or1 (t_ne ((x_call (ok_unrolled_in T 12) (e_cons (x_v 1) evaf_nil)).toB) ((x_v 0).toB)))).t) (evss_one (evs_ret (ev_bl))) evss_nil)
    (evss_one (evs_ret (x_eq ((x_len T.z_len (a_cons ((x_call (ok_appear_in T 12) (e_cons (x_v 1) evaf_nil)).toB) eva_nil)).toB) ((ev_if (t_ne ((x_v 0).toB) ((ev_tup evaf_nil).toB)) (x_ix ((x_ix ((x_call (ok_folds_of T) (e_cons (x_v 0) evaf_nil)).toB) ((ev_tup (e_cons (ev_int) (e_cons (x_len T.z_len (a_cons ((x_v 0).toB) eva_nil)) evaf_nil))).toB)).toB) ((ev_int).toB)) (ev_int)).toB))))))
def lp__law_unrolled_1 (self : List D → Res D) : Sto → Res Fl :=
  (sAsg (e2 addD (eVar 1) (eN (lk 1 (self)) (aCons (e2 ixD (eVar 2) (eC (.int 1))) aNil))) (gN 1))
def lp__law_unrolled_2 (self : List D → Res D) : Sto → Res Fl :=
  (sSeq (sFor (iR rng1 (aCons (eIf (tV (eN (f2 isiD) (aCons (eVar 2) (aCons (eC (.ty .tuple)) aNil)))) (e2 ixD (eVar 2) (eC (.int 0))) (eC (.int 0))) aNil)) (gN 3) (lp__law_unrolled_1 self))
    (sAsg (e2 addD (eVar 1) (eIf (tV (eN (f2 isiD) (aCons (eVar 2) (aCons (eC (.ty .tuple)) aNil)))) (eN tupD aNil) (eN tupD (aCons (eVar 2) aNil)))) (gN 1)))
def body__law_unrolled (self : List D → Res D) : Sto → Res Fl :=
  (sSeq (sAsg (eN tupD aNil) (gN 1))
    (sSeq (sFor (iS (eVar 0)) (gN 2) (lp__law_unrolled_2 self))
    (sRet (eVar 1))))
def m__law_unrolled : Nat → List D → Res D
  | 0 => fun _ => bad
  | k + 1 => runB 4 (body__law_unrolled (m__law_unrolled k))
theorem ok__law_unrolled (T : Top K mg) : ∀ k : Nat, Kept P w K mg base (L2.CX P w) "_law_unrolled" (0 + k) 1 (spZ g0 xr 1 (lk 1 (m__law_unrolled k)))
  | 0 => kept_bad T.d__law_unrolled rfl (fun ds => by unfold lk m__law_unrolled; split <;> rfl)
  | k + 1 => by
    have ih := ok__law_unrolled T k
    refine kept_by T.d__law_unrolled sc__law_unrolled rfl (fun ds h => lk_on _ _ _ h) fun f cdv A outer s H E hr => ?_
    delta body__law_unrolled
    exact (evss_cons (s_set 1 (ev_tup evaf_nil))
    (evss_cons (s_for (fun _ => passes_of rfl) (evi_seq (x_v 0)) (g_v 2) (evss_cons (s_for (fun _ => passes_of rfl) (i_range1 T.z_range (a_cons ((ev_if (t_val (x_isi T.z_isinstance (a_cons ((x_v 2).toB) (a_cons ((x_ty .tuple T.z_tuple).toB) eva_nil)))) (x_ix ((x_v 2).toB) ((ev_int).toB)) (ev_int)).toB) eva_nil)) (g_v 3) (evss_one (s_set 1 (x_add ((x_v 1).toB) ((x_call (hr := Nat.le_refl _) ih (e_cons (x_ix ((x_v 2).toB) ((ev_int).toB)) evaf_nil)).toB)))))
    (evss_one (s_set 1 (x_add ((x_v 1).toB) ((ev_if (t_val (x_isi T.z_isinstance (a_cons ((x_v 2).toB) (a_cons ((x_ty .tuple T.z_tuple).toB) eva_nil)))) (ev_tup evaf_nil) (ev_tup (e_cons (x_v 2) evaf_nil))).toB))))))
    (evss_one (evs_ret (x_v 1)))))
def lp__law_loop_1 (ns : List Int) (row : Addr) (self : List D → DrawM D) : Sto → DrawM Fl :=
  (sSeq (sAsg (eIf ((tAnd' (tV (e2 gtD (eVar 1) (eC (.int 0)))) (tV (e2 eqD (eCall (lk 2 (l2 (m_taken ns row))) (aCons (eVar 0) (aCons (eC (.int 3)) aNil))) (eC (.int 0)))))) (eCall (lk 3 (self)) (aCons (eVar 0) (aCons (e2 subD (eVar 1) (eC (.int 1))) (aCons (eC (.int 3)) aNil)))) (eN tupD aNil)) (gN 5))
    (sAsg (e2 addD (eVar 3) (eIf (tV (e2 neD (eVar 5) (eN tupD aNil))) (eN tupD (aCons (eN tupD (aCons (e2 addD (eC (.int 2)) (eCall (lk 2 (l2 (m_taken ns row))) (aCons (eVar 0) (aCons (eC (.int 3)) aNil)))) (aCons (eVar 5) aNil))) aNil)) (eN tupD (aCons (eCall (lk 2 (l2 (m_taken ns row))) (aCons (eVar 0) (aCons (eC (.int 4)) aNil))) aNil)))) (gN 3)))
def body__law_loop (ns : List Int) (row : Addr) (self : List D → DrawM D) : Sto → DrawM Fl :=
  (sSeq (sAsg (eN tupD aNil) (gN 3))
    (sSeq (sFor (iR rng1 (aCons (eCall (lk 2 (l2 (m_taken ns row))) (aCons (eVar 0) (aCons (e2 addD (eVar 2) (eC (.int 1))) aNil))) aNil)) (gN 4) (lp__law_loop_1 ns row self))
    (sRet (eVar 3))))
def m__law_loop (ns : List Int) (row : Addr) : Nat → List D → DrawM D
  | 0 => fun _ => bad
  | k + 1 => runB 6 (body__law_loop ns row (m__law_loop ns row k))
theorem ok__law_loop (T : Top K mg) (row script : Addr) (so : Option HO) (ns : List Int) (hrs : so ≠ none → row ≠ script) (hss : ∀ H : Hp, (∀ o, so = some o → H script = some o) → SqL K H script (ns.map V.int)) : ∀ k : Nat, Kept P w K mg base (L2.CX P w) "_law_loop" (1 + k) 3 (spZ (drawG row script so) xr 3 (lk 3 (m__law_loop ns row k)))
  | 0 => kept_bad T.d__law_loop rfl (fun ds => by unfold lk m__law_loop; split <;> rfl)
  | k + 1 => by
    have ih := ok__law_loop T row script so ns hrs hss k
    refine kept_by T.d__law_loop sc__law_loop rfl (fun ds h => lk_on _ _ _ h) fun f cdv A outer s H E hr => ?_
    delta body__law_loop
    exact (evss_cons (s_set 3 (ev_tup evaf_nil))
    (evss_cons (s_for (fun _ => passes_of rfl) (i_range1 T.z_range (a_cons ((x_callZ (hr := (by omega : (1 : Nat) ≤ 1 + k)) (ok_taken T row script so ns hrs hss) (e_cons (x_v 0) (e_cons (x_add ((x_v 2).toB) ((ev_int).toB)) evaf_nil))).toB) eva_nil)) (g_v 4) (evss_cons (s_set 5 (ev_if ((evw_and (t_gt ((x_v 1).toB) ((ev_int).toB)) (evw_and1 (t_eq ((x_callZ (hr := (by omega : (1 : Nat) ≤ 1 + k)) (ok_taken T row script so ns hrs hss) (e_cons (x_v 0) (e_cons (ev_int) evaf_nil))).toB) ((ev_int).toB)))).t) (x_callZ (hr := Nat.le_refl _) ih (e_cons (x_v 0) (e_cons (x_sub ((x_v 1).toB) ((ev_int).toB)) (e_cons (ev_int) evaf_nil)))) (ev_tup evaf_nil)))
    (evss_one (s_set 3 (x_add ((x_v 3).toB) ((ev_if (t_ne ((x_v 5).toB) ((ev_tup evaf_nil).toB)) (ev_tup (e_cons (ev_tup (e_cons (x_add ((ev_int).toB) ((x_callZ (hr := (by omega : (1 : Nat) ≤ 1 + k)) (ok_taken T row script so ns hrs hss) (e_cons (x_v 0) (e_cons (ev_int) evaf_nil))).toB)) (e_cons (x_v 5) evaf_nil))) evaf_nil)) (ev_tup (e_cons (x_callZ (hr := (by omega : (1 : Nat) ≤ 1 + k)) (ok_taken T row script so ns hrs hss) (e_cons (x_v 0) (e_cons (ev_int) evaf_nil))) evaf_nil))).toB))))))
    (evss_one (evs_ret (x_v 3)))))
def lp__law_order_1 (ns : List Int) (row : Addr) : Sto → DrawM Fl :=
  (sSeq (sAsg (eCall (lk 2 (l2 (m_taken ns row))) (aCons (eVar 0) (aCons (eN (f1 lenSD) (aCons (eVar 2) aNil)) aNil))) (gN 5))
    (sSeq (sApp 3 (e2 ixD (eVar 2) (eVar 5)))
    (sAsg (e2 addD (eSl (eVar 2) pNo (pSome (eVar 5))) (eSl (eVar 2) (pSome (e2 addD (eVar 5) (eC (.int 1)))) pNo)) (gN 2))))
def body__law_order (ns : List Int) (row : Addr) : Sto → DrawM Fl :=
  (sSeq (sPar2 2 3 false true (eLR (eVar 1)) (eN lstD aNil))
    (sSeq (sFor (iR rng1 (aCons (eVar 1) aNil)) (gN 4) (lp__law_order_1 ns row))
    (sFrz 3 (sRet (eVar 3)))))
def m__law_order (ns : List Int) (row : Addr) : List D → DrawM D := runB 6 (body__law_order ns row)
theorem ok__law_order (T : Top K mg) (row script : Addr) (so : Option HO) (ns : List Int) (hrs : so ≠ none → row ≠ script) (hss : ∀ H : Hp, (∀ o, so = some o → H script = some o) → SqL K H script (ns.map V.int)) : Kept P w K mg base (L2.CX P w) "_law_order" 2 2 (spZ (drawG row script so) xr 2 (lk 2 (m__law_order ns row))) := by
  refine kept_by T.d__law_order sc__law_order rfl (fun ds h => lk_on _ _ _ h) fun f cdv A outer s H E hr => ?_
  delta body__law_order
  exact (evss_cons (s_par2 2 3 (((x_listRange T.z_list T.z_range (x_v 1)).toE).md) ((eo_lst evaf_nil).md))
    (evss_cons (s_for (fun _ => passes_of rfl) (i_range1 T.z_range (a_cons ((x_v 1).toB) eva_nil)) (g_v 4) (evss_cons (s_set 5 (x_callZ (ok_taken T row script so ns hrs hss) (e_cons (x_v 0) (e_cons (x_len T.z_len (a_cons ((x_v 2).toB) eva_nil)) evaf_nil))))
    (evss_cons (s_app 3 (x_ix ((x_v 2).toB) ((x_v 5).toB)))
    (evss_one (s_set 2 (x_add ((ev_slice ((x_v 2).toB) evp_none (evp_some (x_v 5))).toB) ((ev_slice ((x_v 2).toB) (evp_some (x_add ((x_v 5).toB) ((ev_int).toB))) evp_none).toB)))))))
    (evss_one (evs_frz 3 (evs_ret (x_v 3))))))
theorem sc_law : FnScope ["_law_script", "_law_row", "_law_one", "_law_other", "_law_first", "_law_second", "_law_order_here", "_law_loop_here", "_law_turn", "_law_box"] ["_law_script"] (defScope s_law) := ⟨rfl, rfl, rfl, by decide +kernel, rfl, by decide +kernel, by decide +kernel⟩
def body_law (ns : List Int) (row : Addr) : Sto → DrawM Fl :=
  (sSeq (sAsg (eSl (eN (lk 1 (m__law_unrolled 6)) (aCons (eCall (lk 3 (m__law_loop ns row 6)) (aCons (eVar 1) (aCons (eC (.int 2)) (aCons (eC (.int 3)) aNil)))) aNil)) pNo (pSome (eC (.int 6)))) (gN 2))
    (sSeq (sAsg (eN (f1 tupleD) (aCons (eLc (iR rng1 (aCons (eCall (lk 2 (l2 (m_taken ns row))) (aCons (eVar 1) (aCons (eC (.int 7)) aNil))) aNil)) (gN 8) [8] (tYes') (eCall (lk 2 (l2 (m_taken ns row))) (aCons (eVar 1) (aCons (eC (.int 3)) aNil)))) aNil)) (gN 3))
    (sSeq (sAsg (eN tupD (aCons (eN (lk 1 (m_fold_size)) (aCons (eVar 2) aNil)) (aCons (eN (lk 1 (m_fold_size)) (aCons (eVar 3) aNil)) (aCons (eCall (lk 2 (m__law_order ns row)) (aCons (eVar 1) (aCons (eC (.int 8)) aNil))) aNil)))) (gT 3 (gsCons (gN 4) (gsCons (gN 5) (gsCons (gN 6) gsNil)))))
    (sSeq (sIf ((tOr' (tV (e2 gtD (eN (lk 1 (m_fold_size)) (aCons (e2 addD (eVar 2) (eVar 3)) aNil)) (e2 addD (eVar 4) (eVar 5)))) (tOr' (tV (e2 gtD (eN (lk 1 (m_fold_size)) (aCons (e2 mulD (eVar 2) (eC (.int 2))) aNil)) (eVar 4))) (tV (e2 neD (eN (lk 1 (m_fold_size)) (aCons (e1 revD (eVar 2)) aNil)) (eVar 4)))))) (sRet (eC (.bl false))) sNil)
    (sSeq (sIf ((tOr' (tV (e2 neD (eN (lk 1 (m_fold_size)) (aCons (eN (f1 tupleD) (aCons (eLc (iS (eVar 3)) (gN 9) [9] (tYes') (e2 ixD (eVar 6) (eVar 9))) aNil)) aNil)) (eVar 5))) (tV (e2 neD (eN (lk 1 (m_fold_size)) (aCons (e2 addD (eN tupD (aCons (eC (.int 7)) aNil)) (eVar 3)) aNil)) (e2 addD (eVar 5) (eC (.int 1))))))) (sRet (eC (.bl false))) sNil)
    (sSeq (sIf ((tOr' (tV (e2 ltD (eVar 4) (e1 lenSetD (eVar 2)))) (tOr' (tV (e2 gtD (eVar 4) (eN (f1 lenSD) (aCons (eVar 2) aNil)))) (tV (e2 neD (e2 eqD (eVar 4) (eN (f1 lenSD) (aCons (eVar 2) aNil))) (e2 eqD (eN (lk 1 (m_folded)) (aCons (eVar 2) aNil)) (eVar 2))))))) (sRet (eC (.bl false))) sNil)
    (sSeq (sAsg (eN (lk 1 (m_folded)) (aCons (e2 addD (eVar 2) (eVar 3)) aNil)) (gN 7))
    (sSeq (sIf ((tOr' (tV (e2 neD (eN (lk 1 (m_unrolled)) (aCons (eVar 7) aNil)) (e2 addD (eVar 2) (eVar 3)))) (tV (e2 neD (eN (f1 lenSD) (aCons (eN (lk 1 (m_appearances)) (aCons (eVar 7) aNil)) aNil)) (eN (lk 1 (m_fold_size)) (aCons (e2 addD (eVar 2) (eVar 3)) aNil)))))) (sRet (eC (.bl false))) sNil)
    (sSeq (sIf (tNot' (tV (eN (lk 2 (m_shows_fold)) (aCons (e2 addD (eVar 2) (eVar 3)) (aCons (eVar 7) aNil))))) (sRet (eC (.bl false))) sNil)
    (sSeq (sIf ((tAnd' (tV (e2 neD (eVar 2) (eN tupD aNil))) (tV (e2 neD (eN (lk 2 (m_shows_fold)) (aCons (e2 mulD (eVar 2) (eC (.int 3))) (aCons (eN tupD (aCons (eN tupD (aCons (eC (.int 3)) (aCons (eN (lk 1 (m_folded)) (aCons (eVar 2) aNil)) aNil))) aNil)) aNil))) (e2 eqD (eN (lk 1 (m_fold_size)) (aCons (e2 mulD (eVar 2) (eC (.int 3))) aNil)) (eVar 4)))))) (sRet (eC (.bl false))) sNil)
    (sRet ((eAnd (e2 eqD (e2 eqD (eN (lk 1 (m_depth)) (aCons (eVar 7) aNil)) (eC (.int 0))) (e2 eqD (eVar 7) (e2 addD (eVar 2) (eVar 3)))) (e2 eqD (eN (lk 1 (m_fold_size)) (aCons (e2 mulD (eN tupD (aCons (e2 ixD (eVar 6) (eC (.int 0))) aNil)) (eC (.int 24))) aNil)) (eC (.int 1))))))))))))))))
theorem ok_law (T : Top K mg) {f : Addr} {fd : FuncData} (F : Fun K "law" "law" s_law f fd)
    (law : ∀ (ns : List Int) (row script : Addr), ns.length ≤ 63 → ∃ z, Eff.run (body_law ns row (.sh (.ref script) :: .sh (.ref row) :: List.replicate 8 .no)) ⟨0, 9876, 0⟩ = .ok (.rt (.bl true)) z) :
    FnOk P w K mg base (L2.CX P w) 16 f fd ["_law_script"] (spLaw K) := by
  refine law_ok (s1 := (defBody s_law).headD (.Pass ⟨0, 0, 0, 0⟩)) (rest := (defBody s_law).tail) (h := body_law) (seed := 9876) (n := 8) (xr := fun _ _ _ _ _ => True) F sc_law rfl rfl (fun cdv A outer s H E => ps_set (i := 1) sc_law.nd rfl (.inr rfl) (pe_lst (pa_cons (pv 0) (pa_cons pe_int (pa_cons pe_int (pa_cons pe_int pa_nil)))))) ?_ law
  intro x cdv A outer s H E hr
  obtain ⟨row, script, so, ns, hrs, hss⟩ := x
  delta body_law
  exact (evss_cons (s_set 2 (ev_slice ((x_call (ok__law_unrolled T 6) (e_cons (x_callZ (ok__law_loop T row script so ns hrs hss 6) (e_cons (x_vc 1) (e_cons (ev_int) (e_cons (ev_int) evaf_nil)))) evaf_nil)).toB) evp_none (evp_some (ev_int))))
    (evss_cons (s_set 3 (x_tuple T.z_tuple (a_cons ((o_lc [("_law_turn", 8)] ((i_range1 T.z_range (a_cons ((x_callZ (ok_taken T row script so ns hrs hss) (e_cons (x_vc 1) (e_cons (ev_int) evaf_nil))).toB) eva_nil)).toB) (g_v 8) (evts_nil) (x_callZ (ok_taken T row script so ns hrs hss) (e_cons (x_vf 1) (e_cons (ev_int) evaf_nil)))).toB) eva_nil)))
    (evss_cons (s_asg (ev_tup (e_cons (x_call (ok_fold_size T) (e_cons (x_v 2) evaf_nil)) (e_cons (x_call (ok_fold_size T) (e_cons (x_v 3) evaf_nil)) (e_cons (x_callZ (ok__law_order T row script so ns hrs hss) (e_cons (x_vc 1) (e_cons (ev_int) evaf_nil))) evaf_nil)))) (g_tup (gs_cons (g_v 4) (gs_cons (g_v 5) (gs_cons (g_vc 6) evgs_nil)))))
    (evss_cons (evs_if ((evw_or (t_gt ((x_call (ok_fold_size T) (e_cons (x_add ((x_v 2).toB) ((x_v 3).toB)) evaf_nil)).toB) ((x_add ((x_v 4).toB) ((x_v 5).toB)).toB)) (evw_or (t_gt ((x_call (ok_fold_size T) (e_cons (x_mul ((x_v 2).toB) ((ev_int).toB)) evaf_nil)).toB) ((x_v 4).toB)) (evw_or1 (t_ne ((x_call (ok_fold_size T) (e_cons (ev_rev ((x_v 2).toB)) evaf_nil)).toB) ((x_v 4).toB))))).t) (evss_one (evs_ret (ev_bl))) evss_nil)
    (evss_cons (evs_if ((evw_or (t_ne ((x_call (ok_fold_size T) (e_cons (x_tuple T.z_tuple (a_cons ((o_lc [("_law_box", 9)] (evib_seq ((x_v 3).toB)) (g_v 9) (evts_nil) (x_ix ((x_vf 6).toB) ((x_v 9).toB))).toB) eva_nil)) evaf_nil)).toB) ((x_v 5).toB)) (evw_or1 (t_ne ((x_call (ok_fold_size T) (e_cons (x_add ((ev_tup (e_cons (ev_int) evaf_nil)).toB) ((x_v 3).toB)) evaf_nil)).toB) ((x_add ((x_v 5).toB) ((ev_int).toB)).toB)))).t) (evss_one (evs_ret (ev_bl))) evss_nil)
    (evss_cons (evs_if ((evw_or (t_lt ((x_v 4).toB) ((x_lenSet T.z_len T.z_set ((x_v 2).toB)).toB)) (evw_or (t_gt ((x_v 4).toB) ((x_len T.z_len (a_cons ((x_v 2).toB) eva_nil)).toB)) (evw_or1 (t_ne ((x_eq ((x_v 4).toB) ((x_len T.z_len (a_cons ((x_v 2).toB) eva_nil)).toB)).toB) ((x_eq ((x_call (ok_folded T) (e_cons (x_v 2) evaf_nil)).toB) ((x_v 2).toB)).toB))))).t) (evss_one (evs_ret (ev_bl))) evss_nil)
    (evss_cons (s_set 7 (x_call (ok_folded T) (e_cons (x_add ((x_v 2).toB) ((x_v 3).toB)) evaf_nil)))
    (evss_cons (evs_if ((evw_or (t_ne ((x_call (ok_unrolled T) (e_cons (x_v 7) evaf_nil)).toB) ((x_add ((x_v 2).toB) ((x_v 3).toB)).toB)) (evw_or1 (t_ne ((x_len T.z_len (a_cons ((x_call (ok_appearances T) (e_cons (x_v 7) evaf_nil)).toB) eva_nil)).toB) ((x_call (ok_fold_size T) (e_cons (x_add ((x_v 2).toB) ((x_v 3).toB)) evaf_nil)).toB)))).t) (evss_one (evs_ret (ev_bl))) evss_nil)
    (evss_cons (evs_if (evt_not (t_val (x_call (ok_shows_fold T) (e_cons (x_add ((x_v 2).toB) ((x_v 3).toB)) (e_cons (x_v 7) evaf_nil))))) (evss_one (evs_ret (ev_bl))) evss_nil)
    (evss_cons (evs_if ((evw_and (t_ne ((x_v 2).toB) ((ev_tup evaf_nil).toB)) (evw_and1 (t_ne ((x_call (ok_shows_fold T) (e_cons (x_mul ((x_v 2).toB) ((ev_int).toB)) (e_cons (ev_tup (e_cons (ev_tup (e_cons (ev_int) (e_cons (x_call (ok_folded T) (e_cons (x_v 2) evaf_nil)) evaf_nil))) evaf_nil)) evaf_nil))).toB) ((x_eq ((x_call (ok_fold_size T) (e_cons (x_mul ((x_v 2).toB) ((ev_int).toB)) evaf_nil)).toB) ((x_v 4).toB)).toB)))).t) (evss_one (evs_ret (ev_bl))) evss_nil)
    (evss_one (evs_ret ((ev_and (x_eq ((x_eq ((x_call (ok_depth T) (e_cons (x_v 7) evaf_nil)).toB) ((ev_int).toB)).toB) ((x_eq ((x_v 7).toB) ((x_add ((x_v 2).toB) ((x_v 3).toB)).toB)).toB)) (ev_one (x_eq ((x_call (ok_fold_size T) (e_cons (x_mul ((ev_tup (e_cons (x_ix ((x_vc 6).toB) ((ev_int).toB)) evaf_nil)).toB) ((ev_int).toB)) evaf_nil)).toB) ((ev_int).toB)))))))))))))))))
/-! ### folds, plainly -/
inductive Fold : Nat → List Int → Prop
  | one (c : Int) : Fold 1 [c]
  | cat {m n : Nat} {u v : List Int} : Fold m u → Fold n v → Fold (m + n) (u ++ v)
  | rep {n : Nat} {u : List Int} (k : Nat) : Fold n u → 2 ≤ k → Fold n (List.replicate k u).flatten
theorem rep_succ (k : Nat) (u : List Int) : (List.replicate (k + 1) u).flatten = u ++ (List.replicate k u).flatten := by rw [List.replicate_succ, List.flatten_cons]
theorem Fold.ne {n : Nat} {w : List Int} (h : Fold n w) : w ≠ [] := by
  induction h with
  | one c => exact List.cons_ne_nil _ _
  | cat a b ia ib => intro e; exact ia (List.append_eq_nil_iff.mp e).1
  | rep k a hk ia =>
    intro e
    obtain ⟨k, rfl⟩ : ∃ j, k = j + 1 := ⟨k - 1, by omega⟩
    rw [rep_succ] at e
    exact ia (List.append_eq_nil_iff.mp e).1
theorem Fold.pos {n : Nat} {w : List Int} (h : Fold n w) : 1 ≤ n := by
  induction h with
  | one c => exact Nat.le_refl _
  | cat a b ia ib => omega
  | rep k a hk ia => exact ia
theorem Fold.map (g : Int → Int) {n : Nat} {w : List Int} (h : Fold n w) : Fold n (w.map g) := by
  induction h with
  | one c => exact .one _
  | cat a b ia ib => rw [List.map_append]; exact .cat ia ib
  | rep k a hk ia => rw [List.map_flatten, List.map_replicate]; exact .rep k ia hk
theorem rev_flat (u : List Int) : ∀ k : Nat, (List.replicate k u).flatten.reverse = (List.replicate k u.reverse).flatten
  | 0 => rfl
  | k + 1 => by
    rw [rep_succ, List.reverse_append, rev_flat u k]
    have : ∀ (v : List Int) (k : Nat), (List.replicate k v).flatten ++ v = v ++ (List.replicate k v).flatten := fun v k => by
      induction k with
      | zero => simp
      | succ k ih => rw [rep_succ, List.append_assoc, ih]
    rw [this, rep_succ]
theorem Fold.rev {n : Nat} {w : List Int} (h : Fold n w) : Fold n w.reverse := by
  induction h with
  | one c => exact .one c
  | @cat m n u v a b ia ib => rw [List.reverse_append, Nat.add_comm]; exact .cat ib ia
  | rep k a hk ia => rw [rev_flat]; exact .rep k ia hk
theorem Fold.len : ∀ {w : List Int}, w ≠ [] → Fold w.length w
  | [], h => absurd rfl h
  | [c], _ => .one c
  | c :: d :: w, _ => by
    have := Fold.cat (.one c) (Fold.len (w := d :: w) (List.cons_ne_nil _ _))
    rw [Nat.add_comm] at this
    exact this
/-- how many letters -/
theorem nodup_le {l m : List Int} (h : l.Nodup) (s : ∀ x ∈ l, x ∈ m) : l.length ≤ m.length := by
  induction l generalizing m with
  | nil => exact Nat.zero_le _
  | cons x l ih =>
    rw [List.nodup_cons] at h
    have hx := s x List.mem_cons_self
    have : l.length ≤ (m.erase x).length := ih h.2 fun y hy => (List.mem_erase_of_ne (fun (e : y = x) => h.1 (e ▸ hy))).mpr (s y (List.mem_cons_of_mem _ hy))
    rw [List.length_erase_of_mem hx] at this
    have := List.length_pos_of_mem hx
    simp only [List.length_cons]; omega
theorem dd_le {u : List Int} {l : List Int} (h : ∀ x ∈ u, x ∈ l) : (dedupI u).length ≤ l.length := nodup_le (dedupI_nodup u) fun x hx => h x (dedupI_mem.mp hx)
theorem Fold.distinct {n : Nat} {w : List Int} (h : Fold n w) : (dedupI w).length ≤ n := by
  induction h with
  | one c => exact Nat.le_refl _
  | @cat m n u v a b ia ib =>
    have : (dedupI (u ++ v)).length ≤ (dedupI u ++ dedupI v).length := dd_le fun x hx => by
      rw [List.mem_append] at hx ⊢
      exact hx.imp dedupI_mem.mpr dedupI_mem.mpr
    rw [List.length_append] at this
    omega
  | @rep n u k a hk ia =>
    refine Nat.le_trans (dd_le fun x hx => ?_) ia
    obtain ⟨l, hl, hx⟩ := List.mem_flatten.mp hx
    rw [(List.mem_replicate.mp hl).2] at hx
    exact dedupI_mem.mpr hx
/-- a word of two letters and more is put together -/
theorem Fold.last {n : Nat} {w : List Int} (h : Fold n w) : w.length = 1 ∨ (∃ (a b : Nat) (u v : List Int), w = u ++ v ∧ n = a + b ∧ Fold a u ∧ Fold b v) ∨ ∃ (k : Nat) (u : List Int), 2 ≤ k ∧ w = (List.replicate k u).flatten ∧ Fold n u := by
  cases h with
  | one c => exact .inl rfl
  | cat a b => exact .inr (.inl ⟨_, _, _, _, rfl, rfl, a, b⟩)
  | rep k a hk => exact .inr (.inr ⟨k, _, hk, rfl, a⟩)
def IsF (n : Nat) (w : List Int) : Prop := (w = [] ∧ n = 0) ∨ (Fold n w ∧ ∀ m, Fold m w → n ≤ m)
theorem IsF.le {n m : Nat} {w : List Int} (h : IsF n w) (k : Fold m w) : n ≤ m := by
  rcases h with ⟨rfl, rfl⟩ | ⟨_, h⟩
  · exact Nat.zero_le _
  · exact h m k
theorem IsF.uniq {n m : Nat} {w : List Int} (h : IsF n w) (k : IsF m w) : n = m := by
  rcases h with ⟨e, rfl⟩ | ⟨a, h⟩
  · rcases k with ⟨_, rfl⟩ | ⟨b, k⟩
    · rfl
    · exact absurd e b.ne
  · rcases k with ⟨e, rfl⟩ | ⟨b, k⟩
    · exact absurd e a.ne
    · exact Nat.le_antisymm (h _ b) (k _ a)
theorem IsF.nil {n : Nat} (h : IsF n []) : n = 0 := h.uniq (.inl ⟨rfl, rfl⟩)
theorem IsF.fold {n : Nat} {w : List Int} (h : IsF n w) (k : w ≠ []) : Fold n w := by
  rcases h with ⟨e, _⟩ | ⟨a, _⟩
  · exact absurd e k
  · exact a
theorem f_cat {a b c : Nat} {u v : List Int} (ha : IsF a u) (hb : IsF b v) (hc : IsF c (u ++ v)) : c ≤ a + b := by
  by_cases eu : u = []
  · subst eu; have := hc.uniq hb; omega
  · by_cases ev : v = []
    · subst ev; rw [List.append_nil] at hc; have := hc.uniq ha; omega
    · exact hc.le (.cat (ha.fold eu) (hb.fold ev))
theorem f_rep {a b k : Nat} {u : List Int} (ha : IsF a u) (hk : 2 ≤ k) (hb : IsF b (List.replicate k u).flatten) : b ≤ a := by
  by_cases eu : u = []
  · subst eu
    have e : (List.replicate k ([] : List Int)).flatten = [] := by simp
    rw [e] at hb; have := hb.nil; omega
  · exact hb.le (.rep k (ha.fold eu) hk)
theorem f_rev {a b : Nat} {u : List Int} (ha : IsF a u) (hb : IsF b u.reverse) : b = a := by
  by_cases eu : u = []
  · subst eu; exact hb.uniq ha
  · refine Nat.le_antisymm (hb.le (ha.fold eu).rev) ?_
    have := (hb.fold (fun e => eu (List.reverse_eq_nil_iff.mp e))).rev
    rw [List.reverse_reverse] at this
    exact ha.le this
theorem f_map {a b : Nat} {u : List Int} (g h : Int → Int) (e : ∀ x ∈ u, h (g x) = x) (ha : IsF a u) (hb : IsF b (u.map g)) : b = a := by
  by_cases eu : u = []
  · subst eu; exact hb.uniq ha
  · refine Nat.le_antisymm (hb.le ((ha.fold eu).map g)) ?_
    have := (hb.fold (fun e => eu (List.map_eq_nil_iff.mp e))).map h
    rw [List.map_map] at this
    have e2 : u.map (h ∘ g) = u := by
      conv => rhs; rw [← List.map_id u]
      exact List.map_congr_left e
    rw [e2] at this
    exact ha.le this
theorem f_dist {a : Nat} {u : List Int} (ha : IsF a u) : (dedupI u).length ≤ a := by
  by_cases eu : u = []
  · subst eu; exact Nat.zero_le _
  · exact (ha.fold eu).distinct
theorem f_len {a : Nat} {u : List Int} (ha : IsF a u) : a ≤ u.length := by
  by_cases eu : u = []
  · subst eu; have := ha.nil; omega
  · exact ha.le (Fold.len eu)
/-- a letter that stands once -/
theorem drop_one (c : Int) {n : Nat} {w : List Int} (h : Fold n w) : w.count c = 1 → w.filter (· ≠ c) = [] ∨ ∃ m, m + 1 ≤ n ∧ Fold m (w.filter (· ≠ c)) := by
  have none : ∀ {v : List Int}, v.count c = 0 → v.filter (· ≠ c) = v := fun {v} e => by
    rw [List.filter_eq_self]
    intro x hx
    have : c ∉ v := List.count_eq_zero.mp e
    simp only [ne_eq, decide_not, Bool.not_eq_true', decide_eq_false_iff_not]
    exact fun e => this (e ▸ hx)
  induction h with
  | one d =>
    intro e
    have : d = c := by
      by_cases q : d = c
      · exact q
      · rw [List.count_singleton] at e; simp [q] at e
    subst this
    exact .inl (by simp)
  | @cat m n u v a b ia ib =>
    intro e
    rw [List.count_append] at e
    rw [List.filter_append]
    have pa := a.pos
    have pb := b.pos
    by_cases q : u.count c = 1
    · have q2 : v.count c = 0 := by omega
      rw [none q2]
      right
      rcases ia q with h2 | ⟨j, hj, h2⟩
      · rw [h2, List.nil_append]; exact ⟨n, by omega, b⟩
      · exact ⟨j + n, by omega, .cat h2 b⟩
    · have q1 : u.count c = 0 := by omega
      have q2 : v.count c = 1 := by omega
      rw [none q1]
      right
      rcases ib q2 with h2 | ⟨j, hj, h2⟩
      · rw [h2, List.append_nil]; exact ⟨m, by omega, a⟩
      · exact ⟨m + j, by omega, .cat a h2⟩
  | @rep n u k a hk ia =>
    intro e
    exfalso
    have : (List.replicate k u).flatten.count c = k * u.count c := by
      rw [List.count_flatten, List.map_replicate, List.sum_replicate_nat]
    rw [this] at e
    have h0 : u.count c ≠ 0 := fun z => by rw [z, Nat.mul_zero] at e; cases e
    have : 2 * 1 ≤ k * u.count c := Nat.mul_le_mul hk (by omega)
    omega
theorem f_new {a b : Nat} {c : Int} {u : List Int} (ha : IsF a u) (hc : c ∉ u) (hb : IsF b (c :: u)) : b = a + 1 := by
  by_cases eu : u = []
  · subst eu
    have e := ha.nil
    have h1 := hb.le (.one c)
    have h2 := (hb.fold (List.cons_ne_nil _ _)).pos
    omega
  · have h1 := hb.le (.cat (.one c) (ha.fold eu))
    have hf : (c :: u).filter (· ≠ c) = u := by
      rw [List.filter_cons]
      simp only [ne_eq, not_true, decide_false, Bool.false_eq_true, if_false]
      rw [List.filter_eq_self]
      intro x hx
      simp only [ne_eq, decide_not, Bool.not_eq_true', decide_eq_false_iff_not]
      exact fun e => hc (e ▸ hx)
    have hcount : (c :: u).count c = 1 := by rw [List.count_cons_self, List.count_eq_zero.mpr hc]
    rcases drop_one c (hb.fold (List.cons_ne_nil _ _)) hcount with h | ⟨m, hm, h⟩
    · rw [hf] at h; exact absurd h eu
    · rw [hf] at h
      have := ha.le h
      omega
theorem f_same {a : Nat} {c : Int} (ha : IsF a (List.replicate 24 [c]).flatten) : a = 1 := by
  have h1 := ha.le (.rep 24 (.one c) (by omega))
  have h2 := (ha.fold (by simp [List.replicate])).pos
  omega
local macro_rules | `(tactic| trivial) => `(tactic| simp only [W_pure, W_bind, W_ite, W_var, W_varB, W_C, W_e2, W_e1, W_eN, W_eCall, W_aNil, W_aCons, W_eAnd, W_eOr, W_eNot, W_eIf, W_chain, W_sl, W_pNo, W_pSome, W_LR, W_lend, W_tV, W_tAnd, W_tOr, W_tNot, W_tYes, W_iS, W_iR, W_sNil, W_sPass, W_sNever, flK_nx, flK_rt, flK_bk, flK_ct, W_sSeq, W_sIf, W_sRet, W_sSet, W_sOwn, W_sFor, W_sExpr, W_sFrz, W_sAug, W_sApp, W_sSetD, W_par2, W_par3, W_runB, W_eLc, loopK_nx, loopK_ct, loopK_bk, loopK_rt, W_for_nil, W_lc_nil,
  List.getElem?_cons_zero, List.getElem?_cons_succ, List.set_cons_zero, List.set_cons_succ, Option.some.injEq, Sl.sh.injEq, Sl.ow.injEq, D.lst.injEq, D.bl.injEq, D.int.injEq, exists_eq', exists_eq, exists_eq_left', exists_eq_left, Res.ok.injEq, initS, List.map_cons, List.map_nil, List.length_cons, List.length_nil, repSl, List.replicate_zero, List.cons_append, List.nil_append, List.append_nil, Nat.reduceSub, Nat.reduceAdd, Nat.zero_add, gN, Option.bind_some, Sl.d?,
  f1_eq, f2_eq, addI_eq, addD_int, subD_int, ltD_int, leD_int, gtD_int, geD_int, eqD_int, neD_int, eqD_tI, neD_tI, isD_non, isntD_non, isN_non, isN_int, isN_tup, isN_lst, isi_ii, isi_ib, isi_it, isi_ti, isi_tb, isi_tt, lenS_t, lenS_l, slM_f, slM_t, tupD_0, tupD_1, tupD_2, tupD_3, tupD_5, lstD_0, lstD_1, lstD_2, lstD_3, tupleD_l, tupleD_t, seqD_t, seqD_l, intD_i, revD_t, slD_t, slD_l, eqD_bl, neD_bl, ixD_2_0, ixD_2_1,
  if_true, if_false, Bool.false_eq_true, Bool.not_true, Bool.not_false, true_and, and_true, reduceIte])
/-! ### loops, plainly -/
inductive Lp
  | nil
  | b (n : Int) (r : Lp)
  | r (t : Nat) (body rest : Lp)
def Lp.items : Lp → List D
  | .nil => []
  | .b n q => .int n :: q.items
  | .r t body rest => .tup [.int t, .tup body.items] :: rest.items
def Lp.unr : Lp → List Int
  | .nil => []
  | .b n q => n :: q.unr
  | .r t body rest => (List.replicate t body.unr).flatten ++ rest.unr
def Lp.app : Lp → List Int
  | .nil => []
  | .b n q => n :: q.app
  | .r _ body rest => body.app ++ rest.app
def Lp.dep : Lp → Nat
  | .nil => 0
  | .b _ q => q.dep
  | .r _ body rest => max (1 + body.dep) rest.dep
def Lp.ok : Lp → Prop
  | .nil => True
  | .b n q => 0 ≤ n ∧ n ≤ 7 ∧ q.ok
  | .r t body rest => 2 ≤ t ∧ t ≤ 999 ∧ body.unr ≠ [] ∧ body.ok ∧ rest.ok
def Lp.cat : Lp → Lp → Lp
  | .nil, l => l
  | .b n q, l => .b n (q.cat l)
  | .r t body rest, l => .r t body (rest.cat l)
theorem items_cat : ∀ a b : Lp, (a.cat b).items = a.items ++ b.items
  | .nil, _ => rfl
  | .b n r, l => by show _ :: (r.cat l).items = _; rw [items_cat r l]; rfl
  | .r t y r, l => by show _ :: (r.cat l).items = _; rw [items_cat r l]; rfl
theorem unr_cat : ∀ a b : Lp, (a.cat b).unr = a.unr ++ b.unr
  | .nil, _ => rfl
  | .b n r, l => by show _ :: (r.cat l).unr = _; rw [unr_cat r l]; rfl
  | .r t y r, l => by show _ ++ (r.cat l).unr = _; rw [unr_cat r l]; exact (List.append_assoc _ _ _).symm
theorem app_cat : ∀ a b : Lp, (a.cat b).app = a.app ++ b.app
  | .nil, _ => rfl
  | .b n r, l => by show _ :: (r.cat l).app = _; rw [app_cat r l]; rfl
  | .r t y r, l => by show _ ++ (r.cat l).app = _; rw [app_cat r l]; exact (List.append_assoc _ _ _).symm
theorem dep_cat : ∀ a b : Lp, (a.cat b).dep = max a.dep b.dep
  | .nil, b => by show b.dep = max 0 b.dep; omega
  | .b n r, l => dep_cat r l
  | .r t y r, l => by show max _ (r.cat l).dep = max (max _ _) _; rw [dep_cat r l]; omega
theorem ok_cat : ∀ a b : Lp, a.ok → b.ok → (a.cat b).ok
  | .nil, _, _, h => h
  | .b n r, l, ⟨h1, h2, h3⟩, h => ⟨h1, h2, ok_cat r l h3 h⟩
  | .r t y r, l, ⟨h1, h2, h3, h4, h5⟩, h => ⟨h1, h2, h3, h4, ok_cat r l h5 h⟩
theorem items_len : ∀ l : Lp, l.ok → l.items.length ≤ l.unr.length
  | .nil, _ => Nat.le_refl _
  | .b n r, h => Nat.succ_le_succ (items_len r h.2.2)
  | .r t y r, ⟨h1, h2, h3, h4, h5⟩ => by
    have := items_len r h5
    show r.items.length + 1 ≤ _
    rw [show (Lp.r t y r).unr = (List.replicate t y.unr).flatten ++ r.unr from rfl, List.length_append]
    obtain ⟨t, rfl⟩ : ∃ j, t = j + 1 := ⟨t - 1, by omega⟩
    rw [rep_succ, List.length_append]
    have := List.length_pos_iff.mpr h3
    omega
theorem app_len : ∀ l : Lp, l.ok → l.app.length ≤ l.unr.length
  | .nil, _ => Nat.le_refl _
  | .b n r, h => Nat.succ_le_succ (app_len r h.2.2)
  | .r t y r, ⟨h1, h2, h3, h4, h5⟩ => by
    have := app_len r h5
    have := app_len y h4
    show (y.app ++ r.app).length ≤ _
    rw [List.length_append, show (Lp.r t y r).unr = (List.replicate t y.unr).flatten ++ r.unr from rfl, List.length_append]
    obtain ⟨t, rfl⟩ : ∃ j, t = j + 1 := ⟨t - 1, by omega⟩
    rw [rep_succ, List.length_append]
    omega
theorem rep_len (u : List Int) : ∀ t : Nat, (List.replicate t u).flatten.length = t * u.length
  | 0 => by simp
  | t + 1 => by rw [rep_succ, List.length_append, rep_len u t, Nat.succ_mul]; omega
/-- as many appearances as firings: nothing is folded -/
theorem flat_of : ∀ l : Lp, l.ok → l.app.length = l.unr.length → l.dep = 0 ∧ l.items = l.unr.map .int
  | .nil, _, _ => ⟨rfl, rfl⟩
  | .b n r, h, e => by
    obtain ⟨h1, h2⟩ := flat_of r h.2.2 (Nat.succ.inj e)
    exact ⟨h1, by show _ :: r.items = _; rw [h2]; rfl⟩
  | .r t y r, ⟨h1, h2, h3, h4, h5⟩, e => by
    exfalso
    have a := app_len r h5
    have b := app_len y h4
    have e : (y.app ++ r.app).length = ((List.replicate t y.unr).flatten ++ r.unr).length := e
    rw [List.length_append, List.length_append, rep_len] at e
    have := List.length_pos_iff.mpr h3
    have : 2 * y.unr.length ≤ t * y.unr.length := Nat.mul_le_mul_right _ h1
    omega
theorem flat_dep : ∀ l : Lp, l.dep = 0 → l.items = l.unr.map .int ∧ l.app = l.unr
  | .nil, _ => ⟨rfl, rfl⟩
  | .b n r, h => by
    obtain ⟨h1, h2⟩ := flat_dep r h
    exact ⟨by show _ :: r.items = _; rw [h1]; rfl, by show _ :: r.app = _; rw [h2]; rfl⟩
  | .r t y r, h => by
    exfalso
    have h : max (1 + y.dep) r.dep = 0 := h
    omega
/-- each nesting at least doubles -/
theorem dep_len : ∀ l : Lp, l.ok → l.unr ≠ [] → 2 ^ l.dep ≤ l.unr.length
  | .nil, _, h => absurd rfl h
  | .b n r, h, _ => by
    show 2 ^ r.dep ≤ r.unr.length + 1
    by_cases q : r.unr = []
    · have : r = .nil ∨ r ≠ .nil := Classical.em _
      have e : r.dep = 0 := by
        have a := items_len r h.2.2
        rw [q] at a
        cases r with
        | nil => rfl
        | b _ _ => exact absurd q (List.cons_ne_nil _ _)
        | r t y s => exact absurd a (by show ¬ (s.items.length + 1 ≤ 0); omega)
      rw [e, q]; exact Nat.le_refl _
    · have := dep_len r h.2.2 q; omega
  | .r t y r, ⟨h1, h2, h3, h4, h5⟩, _ => by
    have hy := dep_len y h4 h3
    show 2 ^ (max (1 + y.dep) r.dep) ≤ ((List.replicate t y.unr).flatten ++ r.unr).length
    rw [List.length_append, rep_len]
    have h2y : 2 * y.unr.length ≤ t * y.unr.length := Nat.mul_le_mul_right _ h1
    have p : 2 ^ (1 + y.dep) = 2 * 2 ^ y.dep := by rw [Nat.add_comm, Nat.pow_succ, Nat.mul_comm]
    by_cases q : r.unr = []
    · have e : r.dep = 0 := by
        have a := items_len r h5
        rw [q] at a
        cases r with
        | nil => rfl
        | b _ _ => exact absurd q (List.cons_ne_nil _ _)
        | r t y s => exact absurd a (by show ¬ (s.items.length + 1 ≤ 0); omega)
      rw [e, Nat.max_eq_left (Nat.zero_le _)]
      omega
    · have hr := dep_len r h5 q
      by_cases m : 1 + y.dep ≤ r.dep
      · rw [Nat.max_eq_right m]; omega
      · rw [Nat.max_eq_left (by omega)]; omega
/-! ### what the program's defs answer -/
theorem is_in_eq (v a b : Int) : lk 3 m_is_in [.int v, .int a, .int b] = .ok (.bl (decide (a ≤ v) && decide (v ≤ b))) := by
  refine res_of_W ?_
  unfold m_is_in body_is_in
  rw [W_lk]
  trivial
  by_cases h1 : a ≤ v <;> by_cases h2 : v ≤ b <;> simp [h1, h2]
theorem is_in_t (v : List D) (a b : Int) : lk 3 m_is_in [.tup v, .int a, .int b] = .ok (.bl false) := by
  refine res_of_W ?_
  unfold m_is_in body_is_in
  rw [W_lk]
  trivial
theorem size_go (k : Nat) (ih : ∀ (l : Lp) (deep : Int), l.ok → (l.dep : Int) ≤ deep → l.dep < k → l.unr.length ≤ 2000 → lk 2 (m_size_of k) [.tup l.items, .int deep] = .ok (.int l.unr.length)) (v : D) (deep : Int) (q : Fl → Unit → Prop) :
    ∀ (l : Lp) (acc : Nat) (x y : Sl), l.ok → (l.dep : Int) ≤ deep → l.dep < k + 1 → acc + l.unr.length ≤ 2000 → (∀ x y, q (.nx [.sh v, .sh (.int deep), .sh (.int ((acc + l.unr.length : Nat))), x, y]) ()) →
      W (forGo (gN 3) (lp_size_of_1 (m_size_of k)) l.items [.sh v, .sh (.int deep), .sh (.int (acc : Nat)), x, y]) () q := by
  intro l
  induction l with
  | nil => intro acc x y h1 h2 h3 h4 h5; exact W_for_nil.mpr (h5 x y)
  | b n r ir =>
    intro acc x y h1 h2 h3 h4 h5
    obtain ⟨h0, h7, h1⟩ := h1
    have e2 : acc + (Lp.b n r).unr.length = acc + 1 + r.unr.length := by show acc + (r.unr.length + 1) = _; omega
    rw [e2] at h4 h5
    refine W_step (by unfold lp_size_of_1; exact rfl) rfl ?_
    trivial
    rw [is_in_eq]
    trivial
    rw [if_pos (by simp; omega), if_neg (by simp; omega), show (acc : Int) + 1 = ((acc + 1 : Nat) : Int) by omega]
    exact ir (acc + 1) _ _ h1 h2 h3 h4 h5
  | r t y r iy ir =>
    intro acc x y' h1 h2 h3 h4 h5
    obtain ⟨ht, ht2, hne, hy, hr⟩ := h1
    have dy : 1 + y.dep ≤ (Lp.r t y r).dep := Nat.le_max_left _ _
    have dr : r.dep ≤ (Lp.r t y r).dep := Nat.le_max_right _ _
    have lu : (Lp.r t y r).unr.length = t * y.unr.length + r.unr.length := by
      show (_ ++ _ : List Int).length = _; rw [List.length_append, rep_len]
    have ly := List.length_pos_iff.mpr hne
    have l2 : y.unr.length ≤ t * y.unr.length := Nat.le_mul_of_pos_left _ (by omega)
    rw [lu] at h4 h5
    refine W_step (by unfold lp_size_of_1; exact rfl) rfl ?_
    trivial
    rw [is_in_t, is_in_eq]
    trivial
    rw [ih y (deep - 1) hy (by omega) (by omega) (by omega)]
    trivial
    rw [if_pos (by simp), if_pos (by simp; omega), if_pos (by simp; omega), if_neg (by simp; omega), mulD_lo _ _ (by omega) (by omega)]
    trivial
    rw [if_neg (by
      simp only [decide_eq_true_eq]
      have : (t : Int) * (y.unr.length : Int) = ((t * y.unr.length : Nat) : Int) := (Int.natCast_mul _ _).symm
      omega)]
    rw [show (acc : Int) + (t : Int) * (y.unr.length : Int) = ((acc + t * y.unr.length : Nat) : Int) by rw [Int.natCast_add, Int.natCast_mul]]
    refine ir (acc + t * y.unr.length) _ _ hr (by omega) (by omega) (by omega) fun x y' => ?_
    have := h5 x y'
    rw [← Nat.add_assoc] at this
    exact this
theorem size_eq : ∀ (k : Nat) (l : Lp) (deep : Int), l.ok → (l.dep : Int) ≤ deep → l.dep < k → l.unr.length ≤ 2000 → lk 2 (m_size_of k) [.tup l.items, .int deep] = .ok (.int l.unr.length)
  | 0, l, deep, _, _, h, _ => absurd h (Nat.not_lt_zero _)
  | k + 1, l, deep, h1, h2, h3, h4 => by
    refine res_of_W ?_
    rw [W_lk]
    unfold m_size_of
    rw [W_runB]
    unfold body_size_of
    trivial
    refine size_go k (size_eq k) _ deep _ l 0 _ _ h1 h2 h3 (by omega) fun x y => ?_
    trivial
theorem map_rep (u : List Int) : ∀ t : Nat, (List.replicate t (u.map D.int)).flatten = (List.replicate t u).flatten.map D.int := fun t => by rw [List.map_flatten, List.map_replicate]
theorem repT_eq (u : List Int) (t : Nat) (h : 2 ≤ t) (h2 : t ≤ 999) (hu : u ≠ []) (hl : u.length ≤ 1000) : mulD (tI u) (.int t) = .ok (tI (List.replicate t u).flatten) := by
  show repT _ _ = _
  unfold repT
  rw [if_neg (by
    rintro (e | e)
    · exact hu (List.map_eq_nil_iff.mp e)
    · omega), if_pos ⟨by omega, by omega, by rw [List.length_map]; exact hl⟩, Int.toNat_natCast, map_rep]
theorem unr_go (k : Nat) (ih : ∀ l : Lp, l.ok → l.dep < k → l.unr.length ≤ 1000 → lk 1 (m_unrolled_in k) [.tup l.items] = .ok (tI l.unr)) (v : D) (q : Fl → Unit → Prop) :
    ∀ (l : Lp) (acc : List Int) (x : Sl), l.ok → l.dep < k + 1 → acc.length + l.unr.length ≤ 1000 → (∀ x, q (.nx [.sh v, .sh (tI (acc ++ l.unr)), x]) ()) →
      W (forGo (gN 2) (lp_unrolled_in_1 (m_unrolled_in k)) l.items [.sh v, .sh (tI acc), x]) () q := by
  intro l
  induction l with
  | nil => intro acc x h1 h2 h3 h4; refine W_for_nil.mpr ?_; have := h4 x; rw [show Lp.nil.unr = [] from rfl, List.append_nil] at this; exact this
  | b n r ir =>
    intro acc x h1 h2 h3 h4
    obtain ⟨h0, h7, h1⟩ := h1
    rw [show (Lp.b n r).unr = n :: r.unr from rfl, List.length_cons] at h3
    refine W_step (by unfold lp_unrolled_in_1; exact rfl) rfl ?_
    trivial
    rw [addD_tup _ _ (by rw [List.length_map]; show acc.length + 1 ≤ 16777216; omega)]
    trivial
    rw [show acc.map D.int ++ [D.int n] = (acc ++ [n]).map D.int by rw [List.map_append]; rfl]
    refine ir (acc ++ [n]) _ h1 h2 (by rw [List.length_append, List.length_singleton]; omega) fun x => ?_
    have := h4 x
    rw [show (Lp.b n r).unr = n :: r.unr from rfl] at this
    rw [List.append_assoc]
    exact this
  | r t y r iy ir =>
    intro acc x h1 h2 h3 h4
    obtain ⟨ht, ht2, hne, hy, hr⟩ := h1
    have dy : 1 + y.dep ≤ (Lp.r t y r).dep := Nat.le_max_left _ _
    have dr : r.dep ≤ (Lp.r t y r).dep := Nat.le_max_right _ _
    have eu : (Lp.r t y r).unr = (List.replicate t y.unr).flatten ++ r.unr := rfl
    rw [eu, List.length_append, rep_len] at h3
    have l2 : y.unr.length ≤ t * y.unr.length := Nat.le_mul_of_pos_left _ (by omega)
    refine W_step (by unfold lp_unrolled_in_1; exact rfl) rfl ?_
    trivial
    rw [ih y hy (by omega) (by omega)]
    trivial
    rw [repT_eq _ _ ht ht2 hne (by omega)]
    trivial
    rw [addD_tup _ _ (by rw [List.length_map, List.length_map, rep_len]; show _ ≤ 16777216; omega)]
    trivial
    rw [← List.map_append]
    refine ir (acc ++ (List.replicate t y.unr).flatten) _ hr (by omega) (by rw [List.length_append, rep_len]; omega) fun x => ?_
    have := h4 x
    rw [eu, ← List.append_assoc] at this
    exact this
theorem unr_eq : ∀ (k : Nat) (l : Lp), l.ok → l.dep < k → l.unr.length ≤ 1000 → lk 1 (m_unrolled_in k) [.tup l.items] = .ok (tI l.unr)
  | 0, l, _, h, _ => absurd h (Nat.not_lt_zero _)
  | k + 1, l, h1, h2, h3 => by
    refine res_of_W ?_
    rw [W_lk]
    unfold m_unrolled_in
    rw [W_runB]
    unfold body_unrolled_in
    trivial
    refine unr_go k (unr_eq k) _ _ l [] _ h1 h2 (by simpa using h3) fun x => ?_
    trivial
theorem app_go (k : Nat) (ih : ∀ l : Lp, l.ok → l.dep < k → l.unr.length ≤ 1000 → lk 1 (m_appear_in k) [.tup l.items] = .ok (tI l.app)) (v : D) (q : Fl → Unit → Prop) :
    ∀ (l : Lp) (acc : List Int) (x : Sl), l.ok → l.dep < k + 1 → acc.length + l.unr.length ≤ 1000 → (∀ x, q (.nx [.sh v, .sh (tI (acc ++ l.app)), x]) ()) →
      W (forGo (gN 2) (lp_appear_in_1 (m_appear_in k)) l.items [.sh v, .sh (tI acc), x]) () q := by
  intro l
  induction l with
  | nil => intro acc x h1 h2 h3 h4; refine W_for_nil.mpr ?_; have := h4 x; rw [show Lp.nil.app = [] from rfl, List.append_nil] at this; exact this
  | b n r ir =>
    intro acc x h1 h2 h3 h4
    obtain ⟨h0, h7, h1⟩ := h1
    rw [show (Lp.b n r).unr = n :: r.unr from rfl, List.length_cons] at h3
    refine W_step (by unfold lp_appear_in_1; exact rfl) rfl ?_
    trivial
    rw [addD_tup _ _ (by rw [List.length_map]; show acc.length + 1 ≤ 16777216; omega)]
    trivial
    rw [show acc.map D.int ++ [D.int n] = (acc ++ [n]).map D.int by rw [List.map_append]; rfl]
    refine ir (acc ++ [n]) _ h1 h2 (by rw [List.length_append, List.length_singleton]; omega) fun x => ?_
    have := h4 x
    rw [show (Lp.b n r).app = n :: r.app from rfl] at this
    rw [List.append_assoc]
    exact this
  | r t y r iy ir =>
    intro acc x h1 h2 h3 h4
    obtain ⟨ht, ht2, hne, hy, hr⟩ := h1
    have dy : 1 + y.dep ≤ (Lp.r t y r).dep := Nat.le_max_left _ _
    have dr : r.dep ≤ (Lp.r t y r).dep := Nat.le_max_right _ _
    have eu : (Lp.r t y r).app = y.app ++ r.app := rfl
    rw [show (Lp.r t y r).unr = (List.replicate t y.unr).flatten ++ r.unr from rfl, List.length_append, rep_len] at h3
    have l2 : y.unr.length ≤ t * y.unr.length := Nat.le_mul_of_pos_left _ (by omega)
    have la := app_len y hy
    refine W_step (by unfold lp_appear_in_1; exact rfl) rfl ?_
    trivial
    rw [ih y hy (by omega) (by omega)]
    trivial
    rw [addD_tup _ _ (by rw [List.length_map, List.length_map]; show _ ≤ 16777216; omega)]
    trivial
    rw [← List.map_append]
    refine ir (acc ++ y.app) _ hr (by omega) (by rw [List.length_append]; omega) fun x => ?_
    have := h4 x
    rw [eu, ← List.append_assoc] at this
    exact this
theorem app_eq : ∀ (k : Nat) (l : Lp), l.ok → l.dep < k → l.unr.length ≤ 1000 → lk 1 (m_appear_in k) [.tup l.items] = .ok (tI l.app)
  | 0, l, _, h, _ => absurd h (Nat.not_lt_zero _)
  | k + 1, l, h1, h2, h3 => by
    refine res_of_W ?_
    rw [W_lk]
    unfold m_appear_in
    rw [W_runB]
    unfold body_appear_in
    trivial
    refine app_go k (app_eq k) _ _ l [] _ h1 h2 (by simpa using h3) fun x => ?_
    trivial
def Lp.deps : Lp → List Int
  | .nil => []
  | .b _ q => q.deps
  | .r _ body rest => ((1 + body.dep : Nat) : Int) :: rest.deps
theorem deps_max : ∀ (l : Lp) (a : Nat), maxI ((a : Int) :: l.deps) = ((max a l.dep : Nat) : Int)
  | .nil, a => by show (a : Int) = ((max a 0 : Nat) : Int); omega
  | .b n q, a => deps_max q a
  | .r t y q, a => by
    show max (a : Int) (maxI (((1 + y.dep : Nat) : Int) :: q.deps)) = ((max a (max (1 + y.dep) q.dep) : Nat) : Int)
    rw [deps_max q (1 + y.dep)]
    omega
theorem deep_go (k : Nat) (ih : ∀ l : Lp, l.ok → l.dep < k → l.unr.length ≤ 1000 → lk 1 (m_deep_in k) [.tup l.items] = .ok (.int l.dep)) (v : D) (p : List D → Unit → Prop) : ∀ (l : Lp), l.ok → l.dep < k + 1 → l.unr.length ≤ 1000 → p (l.deps.map D.int) () →
    W (lcGo (m := Res) [.sh v, .no] (gN 1) (tV (eN (f2 isiD) (aCons (eVar 1) (aCons (eC (.ty .tuple)) aNil)))) (e2 addD (eC (.int 1)) (eN (lk 1 (m_deep_in k)) (aCons (e2 ixD (eVar 1) (eC (.int 1))) aNil))) l.items) () p := by
  intro l
  induction l generalizing p with
  | nil => intro h1 h2 h4 h3; exact W_lc_nil.mpr h3
  | b n r ir =>
    intro h1 h2 h4 h3
    refine W_lc_cons.mpr ⟨_, rfl, ?_⟩
    trivial
    exact ir p h1.2.2 h2 (Nat.le_of_succ_le h4) h3
  | r t y r iy ir =>
    intro h1 h2 h4 h3
    obtain ⟨ht, ht2, hne, hy, hr⟩ := h1
    have dy : 1 + y.dep ≤ (Lp.r t y r).dep := Nat.le_max_left _ _
    have dr : r.dep ≤ (Lp.r t y r).dep := Nat.le_max_right _ _
    rw [show (Lp.r t y r).unr = (List.replicate t y.unr).flatten ++ r.unr from rfl, List.length_append, rep_len] at h4
    have l2 : y.unr.length ≤ t * y.unr.length := Nat.le_mul_of_pos_left _ (by omega)
    refine W_lc_cons.mpr ⟨_, rfl, ?_⟩
    trivial
    rw [ih y hy (by omega) (by omega)]
    trivial
    refine ir _ hr (by omega) (by omega) ?_
    rw [show (1 : Int) + (y.dep : Int) = ((1 + y.dep : Nat) : Int) by omega]
    exact h3
theorem deps_len : ∀ l : Lp, l.deps.length ≤ l.items.length
  | .nil => Nat.le_refl _
  | .b _ q => Nat.le_succ_of_le (deps_len q)
  | .r _ _ q => Nat.succ_le_succ (deps_len q)
theorem deep_eq : ∀ (k : Nat) (l : Lp), l.ok → l.dep < k → l.unr.length ≤ 1000 → lk 1 (m_deep_in k) [.tup l.items] = .ok (.int l.dep)
  | 0, l, _, h, _ => absurd h (Nat.not_lt_zero _)
  | k + 1, l, h1, h2, h3 => by
    have hi := items_len l h1
    have hd := deps_len l
    refine res_of_W ?_
    rw [W_lk]
    unfold m_deep_in
    rw [W_runB]
    unfold body_deep_in
    trivial
    refine ⟨by show _ ≤ 16777216; omega, deep_go k (deep_eq k) _ _ l h1 h2 h3 ?_⟩
    rw [addD_lst _ _ (by rw [List.length_map]; show 1 + _ ≤ 16777216; omega)]
    trivial
    rw [show D.int 0 :: l.deps.map D.int = (0 :: l.deps).map D.int from rfl]
    have e : maxD (.lst ((0 :: l.deps).map D.int)) = .ok (.int l.dep) := by
      show (match intsD ((0 :: l.deps).map D.int) with | some (i :: is) => Res.ok (D.int (maxI (i :: is))) | _ => .bad : Res D) = _
      rw [intsD_map]
      show Res.ok (D.int (maxI (0 :: l.deps))) = _
      have := deps_max l 0
      rw [show ((0 : Nat) : Int) = 0 from rfl] at this
      rw [this, Nat.zero_max]
    rw [e]
    trivial
/-! ### the folds of all parts -/
def seg (w : List Int) (a s : Nat) : List Int := (w.drop a).take s
theorem seg_len {w : List Int} {a s : Nat} (h : a + s ≤ w.length) : (seg w a s).length = s := by
  unfold seg; rw [List.length_take, List.length_drop]; omega
theorem seg_cat (w : List Int) (a c s : Nat) (h : c ≤ s) : seg w a s = seg w a c ++ seg w (a + c) (s - c) := by
  unfold seg
  rw [← List.drop_drop, ← List.drop_take]
  conv => lhs; rw [← List.take_append_drop c (List.take s (List.drop a w))]
  rw [List.take_take, Nat.min_eq_left h]
structure Good (x : List Int) (n : Nat) (l : Lp) : Prop where
  ok : l.ok
  unr : l.unr = x
  app : l.app.length = n
  min : IsF n x
def enc (n : Nat) (l : Lp) : D := .tup [.int n, .tup l.items]
def Has (w : List Int) (dd : D) (a s : Nat) : Prop := ∃ n l, ixD dd (.tup [.int a, .int s]) = .ok (enc n l) ∧ Good (seg w a s) n l
theorem Good.uniq {x : List Int} {n m : Nat} {l k : Lp} (a : Good x n l) (b : Good x m k) : n = m := a.min.uniq b.min
/-- cuts looked at so far -/
structure St1 (w : List Int) (a s j : Nat) (n : Nat) (l : Lp) : Prop where
  ok : l.ok
  unr : l.unr = seg w a s
  app : l.app.length = n
  fold : Fold n (seg w a s)
  min : ∀ c n1 n2, 1 ≤ c → c ≤ j → IsF n1 (seg w a c) → IsF n2 (seg w (a + c) (s - c)) → n ≤ n1 + n2
theorem cut_go (w : List Int) (dd : D) (a s : Nat) (h2 : 2 ≤ s) (hl : w.length ≤ 24) (hs : a + s ≤ w.length) (hH : ∀ a' s', 1 ≤ s' → s' < s → a' + s' ≤ w.length → Has w dd a' s') (q : Fl → Unit → Prop) (y0 y1 y2 y3 y4 : Sl)
    (hq : ∀ n l y0 y1 y2 y3 y4, St1 w a s (s - 1) n l → q (.nx [.sh (tI w), .sh (.int a), .sh (.int s), .sh dd, .sh (enc n l), y0, y1, y2, y3, y4]) ()) :
    W (forGo (m := Res) (gN 5) lp_best_fold_1 (rangeD 1 (s - 1)) [.sh (tI w), .sh (.int a), .sh (.int s), .sh dd, .sh .non, y0, y1, y2, y3, y4]) () q := by
  refine W_rng (fun j ρ _ => ∃ y0 y1 y2 y3 y4, (j = 0 ∧ ρ = [.sh (tI w), .sh (.int a), .sh (.int s), .sh dd, .sh .non, y0, y1, y2, y3, y4]) ∨ (0 < j ∧ ∃ n l, ρ = [.sh (tI w), .sh (.int a), .sh (.int s), .sh dd, .sh (enc n l), y0, y1, y2, y3, y4] ∧ St1 w a s j n l)) ⟨y0, y1, y2, y3, y4, .inl ⟨rfl, rfl⟩⟩ (fun ρ z h => ?_) fun j ρ z hj h => ?_
  · obtain ⟨y0, y1, y2, y3, y4, ⟨h, _⟩ | ⟨_, n, l, rfl, h⟩⟩ := h
    · omega
    · exact hq n l _ _ _ _ _ h
  · obtain ⟨n1, l1, e1, g1⟩ := hH a (j + 1) (by omega) (by omega) (by omega)
    obtain ⟨n2, l2, e2, g2⟩ := hH (a + (j + 1)) (s - (j + 1)) (by omega) (by omega) (by omega)
    have hc : seg w a s = seg w a (j + 1) ++ seg w (a + (j + 1)) (s - (j + 1)) := seg_cat w a (j + 1) s (by omega)
    have sl1 : (seg w a (j + 1)).length = j + 1 := seg_len (by omega)
    have sl2 : (seg w (a + (j + 1)) (s - (j + 1))).length = s - (j + 1) := seg_len (by omega)
    have ne1 : seg w a (j + 1) ≠ [] := fun e => by rw [e] at sl1; cases sl1
    have ne2 : seg w (a + (j + 1)) (s - (j + 1)) ≠ [] := fun e => by rw [e] at sl2; simp at sl2; omega
    have i1 := items_len l1 g1.ok
    have i2 := items_len l2 g2.ok
    rw [g1.unr, sl1] at i1
    rw [g2.unr, sl2] at i2
    -- the new one
    have new : St1 w a s 0 (n1 + n2) (l1.cat l2) := ⟨ok_cat _ _ g1.ok g2.ok, by rw [unr_cat, g1.unr, g2.unr, hc], by rw [app_cat, List.length_append, g1.app, g2.app], by rw [hc]; exact .cat (g1.min.fold ne1) (g2.min.fold ne2), fun c _ _ h1 h2 => absurd h1 (by omega)⟩
    have tests : ∀ (c : Nat) (m1 m2 : Nat), c = j + 1 → IsF m1 (seg w a c) → IsF m2 (seg w (a + c) (s - c)) → n1 + n2 = m1 + m2 := fun c m1 m2 e k1 k2 => by
      subst e
      rw [g1.min.uniq k1, g2.min.uniq k2]
    obtain ⟨y0, y1, y2, y3, y4, ⟨h, rfl⟩ | ⟨h, n, l, rfl, hst⟩⟩ := h
    all_goals refine ⟨_, rfl, ?_⟩
    all_goals unfold lp_best_fold_1
    all_goals trivial
    all_goals rw [show (1 : Int) + (j : Int) = ((j + 1 : Nat) : Int) by omega, show (s : Int) - ((j + 1 : Nat) : Int) = ((s - (j + 1) : Nat) : Int) by omega, show (a : Int) + ((j + 1 : Nat) : Int) = ((a + (j + 1) : Nat) : Int) by omega, e1, e2]
    all_goals unfold enc
    all_goals trivial
    · refine ⟨_, addD_tup _ _ (by show _ ≤ 16777216; omega), _, _, _, _, _, .inr ⟨by omega, n1 + n2, l1.cat l2, by rw [items_cat, Int.natCast_add n1 n2], ?_⟩⟩
      exact { new with min := fun c m1 m2 hc1 hc2 k1 k2 => Nat.le_of_eq (tests c m1 m2 (by omega) k1 k2) }
    · by_cases lt : n1 + n2 < n
      · rw [if_pos (by rw [decide_eq_true_eq]; omega)]
        refine ⟨_, addD_tup _ _ (by show _ ≤ 16777216; omega), _, _, _, _, _, .inr ⟨by omega, n1 + n2, l1.cat l2, by rw [items_cat, Int.natCast_add n1 n2], ?_⟩⟩
        refine { new with min := fun c m1 m2 hc1 hc2 k1 k2 => ?_ }
        by_cases e : c = j + 1
        · exact Nat.le_of_eq (tests c m1 m2 e k1 k2)
        · have := hst.min c m1 m2 hc1 (by omega) k1 k2; omega
      · rw [if_neg (by rw [decide_eq_true_eq]; omega)]
        refine ⟨_, _, _, _, _, .inr ⟨by omega, n, l, rfl, ?_⟩⟩
        refine { hst with min := fun c m1 m2 hc1 hc2 k1 k2 => ?_ }
        by_cases e : c = j + 1
        · have := tests c m1 m2 e k1 k2; omega
        · exact hst.min c m1 m2 hc1 (by omega) k1 k2
structure St2 (w : List Int) (a s j : Nat) (n : Nat) (l : Lp) : Prop extends St1 w a s (s - 1) n l where
  per : ∀ p n1, 1 ≤ p → p ≤ j → s % p = 0 → (List.replicate (s / p) (seg w a p)).flatten = seg w a s → IsF n1 (seg w a p) → n ≤ n1
theorem cut_seg (w : List Int) (a s : Nat) : cutD (w.map D.int) (some (a : Int)) (some (((a + s : Nat) : Int))) = (seg w a s).map D.int := by
  rw [cutD_nat, Nat.add_sub_cancel_left]
  unfold seg
  rw [List.map_take, List.map_drop]
theorem mulD_any (u : List Int) (t : Nat) (h : 1 ≤ t) (h2 : t ≤ 999) (hl : u.length ≤ 1000) : mulD (tI u) (.int t) = .ok (tI (List.replicate t u).flatten) := by
  by_cases hu : u = []
  · subst hu
    have e : (List.replicate t ([] : List Int)).flatten = [] := by simp
    rw [e]
    show repT [] _ = _
    unfold repT
    rw [if_pos (.inl rfl), if_pos ⟨by omega, by omega⟩]
    rfl
  · by_cases h1 : t = 1
    · subst h1
      show repT _ _ = _
      unfold repT
      rw [if_pos (.inr rfl), if_pos ⟨by omega, by omega⟩]
      simp
    · exact repT_eq u t (by omega) h2 hu hl
theorem per_go (w : List Int) (dd : D) (a s : Nat) (h2 : 2 ≤ s) (hl : w.length ≤ 24) (hs : a + s ≤ w.length) (hH : ∀ a' s', 1 ≤ s' → s' < s → a' + s' ≤ w.length → Has w dd a' s') (q : Fl → Unit → Prop) (n0 : Nat) (l0 : Lp) (h0 : St1 w a s (s - 1) n0 l0) (y0 y1 y2 y3 y4 : Sl)
    (hq : ∀ n l y0 y1 y2 y3 y4, St2 w a s (s - 1) n l → q (.nx [.sh (tI w), .sh (.int a), .sh (.int s), .sh dd, .sh (enc n l), y0, y1, y2, y3, y4]) ()) :
    W (forGo (m := Res) (gN 8) lp_best_fold_2 (rangeD 1 (s - 1)) [.sh (tI w), .sh (.int a), .sh (.int s), .sh dd, .sh (enc n0 l0), y0, y1, y2, y3, y4]) () q := by
  refine W_rng (fun j ρ _ => ∃ y0 y1 y2 y3 y4 n l, ρ = [.sh (tI w), .sh (.int a), .sh (.int s), .sh dd, .sh (enc n l), y0, y1, y2, y3, y4] ∧ St2 w a s j n l) ⟨y0, y1, y2, y3, y4, n0, l0, rfl, { h0 with per := fun p _ h1 h2 => absurd h1 (by omega) }⟩ (fun ρ z h => ?_) fun j ρ z hj h => ?_
  · obtain ⟨y0, y1, y2, y3, y4, n, l, rfl, h⟩ := h
    exact hq n l _ _ _ _ _ h
  · obtain ⟨y0, y1, y2, y3, y4, n, l, rfl, hst⟩ := h
    obtain ⟨n1, l1, e1, g1⟩ := hH a (j + 1) (by omega) (by omega) (by omega)
    have sl1 : (seg w a (j + 1)).length = j + 1 := seg_len (by omega)
    have ne1 : seg w a (j + 1) ≠ [] := fun e => by rw [e] at sl1; cases sl1
    have skip : (∀ m1, s % (j + 1) = 0 → (List.replicate (s / (j + 1)) (seg w a (j + 1))).flatten = seg w a s → IsF m1 (seg w a (j + 1)) → n ≤ m1) → St2 w a s (j + 1) n l := fun k => by
      refine { hst with per := fun p m1 hp1 hp2 hp3 hp4 hp5 => ?_ }
      by_cases e : p = j + 1
      · subst e; exact k m1 hp3 hp4 hp5
      · exact hst.per p m1 hp1 (by omega) hp3 hp4 hp5
    refine ⟨_, rfl, ?_⟩
    unfold lp_best_fold_2
    trivial
    rw [show (1 : Int) + (j : Int) = ((j + 1 : Nat) : Int) by omega, show (a : Int) + ((j + 1 : Nat) : Int) = ((a + (j + 1) : Nat) : Int) by omega, show (a : Int) + (s : Int) = ((a + s : Nat) : Int) by omega, cut_seg, cut_seg]
    rw [modD_int _ _ (by omega), fdivD_int _ _ ⟨by omega, by omega⟩, fmod_nat, fdiv_nat]
    trivial
    by_cases hd : s % (j + 1) = 0
    · rw [if_pos (by rw [decide_eq_true_eq]; omega)]
      have hm := Nat.div_add_mod s (j + 1)
      rw [hd, Nat.add_zero] at hm
      generalize ht : s / (j + 1) = t at hm skip
      have t2 : 2 ≤ t := by
        rcases t with _ | _ | t
        · omega
        · omega
        · omega
      have t9 : t ≤ 24 := by
        have : 1 * t ≤ (j + 1) * t := Nat.mul_le_mul_right _ (by omega)
        omega
      rw [mulD_any _ _ (by omega) (by omega) (by omega)]
      trivial
      by_cases hp : (List.replicate t (seg w a (j + 1))).flatten = seg w a s
      · rw [if_pos (by rw [decide_eq_true_eq]; exact hp), e1]
        unfold enc
        trivial
        have d5 : l1.dep < 5 := by
          have := dep_len l1 g1.ok (by rw [g1.unr]; exact ne1)
          rw [g1.unr, sl1] at this
          by_cases q : l1.dep < 5
          · exact q
          · have := Nat.pow_le_pow_right (n := 2) (by omega) (show 5 ≤ l1.dep by omega)
            omega
        by_cases lt : n1 < n
        · rw [if_pos (by rw [decide_eq_true_eq]; omega), if_pos (by rw [decide_eq_true_eq]; omega), deep_eq 12 l1 g1.ok (by omega) (by rw [g1.unr]; omega)]
          trivial
          rw [if_pos (by rw [decide_eq_true_eq]; omega)]
          refine ⟨_, _, _, _, _, n1, .r t l1 .nil, rfl, ?_⟩
          exact { ok := ⟨t2, by omega, by rw [g1.unr]; exact ne1, g1.ok, trivial⟩
                  unr := by show (List.replicate t l1.unr).flatten ++ [] = _; rw [g1.unr, List.append_nil]; exact hp
                  app := by show (l1.app ++ []).length = _; rw [List.append_nil]; exact g1.app
                  fold := by rw [← hp]; exact .rep t (g1.min.fold ne1) t2
                  min := fun c m1 m2 c1 c2 k1 k2 => by have := hst.min c m1 m2 c1 c2 k1 k2; omega
                  per := fun p m1 p1 p2 p3 p4 p5 => by
                    by_cases e : p = j + 1
                    · subst e; exact Nat.le_of_eq (g1.min.uniq p5)
                    · have := hst.per p m1 p1 (by omega) p3 p4 p5; omega }
        · rw [if_neg (by rw [decide_eq_true_eq]; omega)]
          exact ⟨_, _, _, _, _, n, l, rfl, skip fun m1 _ _ k => by have := g1.min.uniq k; omega⟩
      · rw [if_neg (by rw [decide_eq_true_eq]; exact hp)]
        exact ⟨_, _, _, _, _, n, l, rfl, skip fun m1 _ k _ => absurd k hp⟩
    · rw [if_neg (by rw [decide_eq_true_eq]; omega)]
      exact ⟨_, _, _, _, _, n, l, rfl, skip fun m1 k _ _ => absurd k hd⟩
theorem best_eq (w : List Int) (hw : ∀ x ∈ w, 0 ≤ x ∧ x ≤ 7) (dd : D) (a s : Nat) (h1 : 1 ≤ s) (hl : w.length ≤ 24) (hs : a + s ≤ w.length) (hH : ∀ a' s', 1 ≤ s' → s' < s → a' + s' ≤ w.length → Has w dd a' s') : ∃ n l, lk 4 m_best_fold [tI w, .int a, .int s, dd] = .ok (enc n l) ∧ Good (seg w a s) n l := by
  suffices H : W (lk 4 m_best_fold [tI w, .int a, .int s, dd]) () fun d _ => ∃ n l, d = enc n l ∧ Good (seg w a s) n l by
    obtain ⟨d, e, n, l, rfl, g⟩ := W_res.mp H
    exact ⟨n, l, e, g⟩
  rw [W_lk]
  unfold m_best_fold body_best_fold
  trivial
  by_cases e1 : s = 1
  · subst e1
    rw [if_pos (by rfl)]
    have hlt : a < w.length := by omega
    have es : seg w a 1 = [w[a]] := by
      unfold seg
      rw [List.drop_eq_getElem_cons hlt]; rfl
    rw [ixD_t (atI_nat' rfl (by rw [List.getElem?_map, List.getElem?_eq_getElem hlt]; rfl))]
    trivial
    refine ⟨1, .b w[a] .nil, rfl, ⟨(hw _ (List.getElem_mem hlt)).1, (hw _ (List.getElem_mem hlt)).2, trivial⟩, es.symm, rfl, .inr ⟨by rw [es]; exact .one _, fun m hm => hm.pos⟩⟩
  · rw [if_neg (by rw [decide_eq_true_eq]; omega), show (1 : Int) = ((1 : Nat) : Int) from rfl, rng2_nat 1 s (by omega) (by omega)]
    trivial
    refine cut_go w dd a s (by omega) hl hs hH _ _ _ _ _ _ fun n l y0 y1 y2 y3 y4 hst => ?_
    trivial
    rw [rng2_nat 1 s (by omega) (by omega)]
    trivial
    refine per_go w dd a s (by omega) hl hs hH _ n l hst _ _ _ _ _ fun n l y0 y1 y2 y3 y4 hst => ?_
    trivial
    refine ⟨n, l, rfl, hst.ok, hst.unr, hst.app, .inr ⟨hst.fold, fun m hm => ?_⟩⟩
    have slen := seg_len (w := w) hs
    rcases hm.last with h | ⟨b1, b2, u, v, e, rfl, f1, f2⟩ | ⟨k, u, hk, e, f1⟩
    · omega
    · have lu := List.length_pos_iff.mpr f1.ne
      have lv := List.length_pos_iff.mpr f2.ne
      have lt : u.length + v.length = s := by rw [← List.length_append, ← e, slen]
      have hc := seg_cat w a u.length s (by omega)
      have l1 : (seg w a u.length).length = u.length := seg_len (by omega)
      rw [e] at hc
      obtain ⟨q1, q2⟩ := List.append_inj hc l1.symm
      obtain ⟨n1, _, _, g1⟩ := hH a u.length (by omega) (by omega) (by omega)
      obtain ⟨n2, _, _, g2⟩ := hH (a + u.length) (s - u.length) (by omega) (by omega) (by omega)
      have m0 := hst.min u.length n1 n2 (by omega) (by omega) g1.min g2.min
      have m1 := g1.min.le (by rw [← q1]; exact f1)
      have m2 := g2.min.le (by rw [← q2]; exact f2)
      omega
    · have lu := List.length_pos_iff.mpr f1.ne
      have lk : k * u.length = s := by rw [← rep_len, ← e, slen]
      have l2 : 2 * u.length ≤ k * u.length := Nat.mul_le_mul_right _ hk
      have hd : s / u.length = k := by rw [← lk]; exact Nat.mul_div_cancel _ lu
      have hm0 : s % u.length = 0 := by rw [← lk]; exact Nat.mul_mod_left _ _
      have hc := seg_cat w a u.length s (by omega)
      have l1 : (seg w a u.length).length = u.length := seg_len (by omega)
      obtain ⟨k, rfl⟩ : ∃ k', k = k' + 1 := ⟨k - 1, by omega⟩
      rw [e, rep_succ] at hc
      obtain ⟨q1, _⟩ := List.append_inj hc l1.symm
      obtain ⟨n1, _, _, g1⟩ := hH a u.length (by omega) (by omega) (by omega)
      have m0 := hst.per u.length n1 (by omega) (by omega) hm0 (by rw [hd, ← q1]; exact e.symm) g1.min
      have m1 := g1.min.le (by rw [← q1]; exact f1)
      omega
theorem imms_items : ∀ l : Lp, D.imms l.items = true
  | .nil => rfl
  | .b n q => by show (true && D.imms q.items) = true; rw [imms_items q]; rfl
  | .r t y q => by show ((true && (D.imms y.items && true)) && D.imms q.items) = true; rw [imms_items q, imms_items y]; rfl
theorem enc_imm (n : Nat) (l : Lp) : (enc n l).imm = true := by
  show (true && (D.imms l.items && true)) = true
  rw [imms_items]; rfl
abbrev ky (a s : Nat) : List Key := [.inl (a : Int), .inl (s : Int)]
theorem ky_inj {a s a' s' : Nat} (h : ky a' s' = ky a s) : a' = a ∧ s' = s := by
  have h1 := (List.cons.inj h).1
  have h2 := (List.cons.inj (List.cons.inj h).2).1
  have h1 := Sum.inl.inj h1
  have h2 := Sum.inl.inj h2
  omega
theorem has_iff (w : List Int) (kvs : List (List Key × D)) (a s : Nat) (n : Nat) (l : Lp) (h : getK kvs (ky a s) = some (enc n l)) (g : Good (seg w a s) n l) : Has w (.dt kvs) a s := by
  refine ⟨n, l, ?_, g⟩
  show (match (some (getK kvs (ky a s)) : Option (Option D)) with | some (some x) => Res.ok x | _ => .bad : Res D) = _
  rw [h]
theorem has_get {w : List Int} {kvs : List (List Key × D)} {a s : Nat} (h : Has w (.dt kvs) a s) : ∃ n l, getK kvs (ky a s) = some (enc n l) ∧ Good (seg w a s) n l := by
  obtain ⟨n, l, e, g⟩ := h
  refine ⟨n, l, ?_, g⟩
  have e : (match (some (getK kvs (ky a s)) : Option (Option D)) with | some (some x) => Res.ok x | _ => .bad : Res D) = .ok (enc n l) := e
  cases q : getK kvs (ky a s) with
  | none => rw [q] at e; cases e
  | some x => rw [q] at e; cases e; rfl
theorem put_has {w : List Int} {kvs : List (List Key × D)} {a s a' s' : Nat} {n : Nat} {l : Lp} (g : Good (seg w a s) n l) (h : (a' = a ∧ s' = s) ∨ Has w (.dt kvs) a' s') : Has w (.dt (setK kvs (ky a s) (enc n l))) a' s' := by
  by_cases e : ky a' s' = ky a s
  · obtain ⟨rfl, rfl⟩ := ky_inj e
    exact has_iff w _ _ _ n l (by rw [getK_set, if_pos rfl]) g
  · rcases h with ⟨rfl, rfl⟩ | h
    · exact absurd rfl e
    · obtain ⟨n', l', e', g'⟩ := has_get h
      exact has_iff w _ _ _ n' l' (by rw [getK_set, if_neg e]; exact e') g'
theorem folds_eq (w : List Int) (hw : ∀ x ∈ w, 0 ≤ x ∧ x ≤ 7) (hl : w.length ≤ 24) : ∃ d, lk 1 m_folds_of [tI w] = .ok d ∧ ∀ a s, 1 ≤ s → a + s ≤ w.length → Has w d a s := by
  suffices H : W (lk 1 m_folds_of [tI w]) () (fun d _ => ∀ a s, 1 ≤ s → a + s ≤ w.length → Has w d a s) from W_res.mp H
  rw [W_lk]
  unfold m_folds_of body_folds_of
  trivial
  unfold dtD
  trivial
  rw [List.length_map, show (1 : Int) = ((1 : Nat) : Int) from rfl, show ((w.length : Nat) : Int) + ((1 : Nat) : Int) = ((w.length + 1 : Nat) : Int) by omega, rng2_nat 1 _ (by omega) (by omega)]
  trivial
  refine W_rng (fun j ρ _ => ∃ kvs x y, ρ = [.sh (tI w), .ow (.dt kvs), x, y] ∧ kvs.length ≤ j * 25 ∧ ∀ a s, 1 ≤ s → s ≤ j → a + s ≤ w.length → Has w (.dt kvs) a s) ⟨[], _, _, rfl, Nat.zero_le _, fun a s h1 h2 => absurd h1 (by omega)⟩ (fun ρ z h => ?_) fun j ρ z hj h => ?_
  · obtain ⟨kvs, x, y, rfl, hlen, h⟩ := h
    trivial
    unfold frz1
    trivial
    exact fun a s h1 h2 => h a s h1 (by omega) h2
  · obtain ⟨kvs, x, y, rfl, hlen, h⟩ := h
    refine ⟨_, rfl, ?_⟩
    unfold lp_folds_of_2
    trivial
    rw [List.length_map, show ((1 : Nat) : Int) + (j : Int) = ((j + 1 : Nat) : Int) by omega, show (w.length : Int) - ((j + 1 : Nat) : Int) + (1 : Int) = ((w.length - j : Nat) : Int) by omega, rng1_nat _ (by omega)]
    trivial
    refine W_rng (fun i ρ _ => ∃ kvs y, ρ = [.sh (tI w), .ow (.dt kvs), .sh (.int ((j + 1 : Nat) : Int)), y] ∧ kvs.length ≤ j * 25 + i ∧ (∀ a s, 1 ≤ s → s ≤ j → a + s ≤ w.length → Has w (.dt kvs) a s) ∧ ∀ a, a < i → Has w (.dt kvs) a (j + 1)) ⟨kvs, _, rfl, hlen, h, fun a ha => absurd ha (by omega)⟩ (fun ρ z h => ?_) fun i ρ z hi h => ?_
    · obtain ⟨kvs, y, rfl, hlen, h1, h2⟩ := h
      trivial
      refine ⟨kvs, _, _, rfl, by omega, fun a s k1 k2 k3 => ?_⟩
      by_cases e : s = j + 1
      · subst e; exact h2 a (by omega)
      · exact h1 a s k1 (by omega) k3
    · obtain ⟨kvs, y, rfl, hlen, h1, h2⟩ := h
      obtain ⟨n, l, e, g⟩ := best_eq w hw (.dt kvs) i (j + 1) (by omega) hl (by omega) fun a' s' k1 k2 k3 => h1 a' s' k1 (by omega) k3
      refine ⟨_, rfl, ?_⟩
      unfold lp_folds_of_1
      trivial
      unfold frz1
      trivial
      rw [Int.zero_add, e]
      trivial
      refine ⟨enc_imm n l, .dt (setK kvs (ky i (j + 1)) (enc n l)), ?_, ?_⟩
      · show (if kvs.length < lim then some (D.dt (setK kvs (ky i (j + 1)) (enc n l))) else none) = _
        rw [if_pos (by show _ < 16777216; omega)]
      · refine ⟨_, _, rfl, Nat.le_trans (setK_len _ _ _) (by omega), fun a s k1 k2 k3 => put_has g (.inr (h1 a s k1 k2 k3)), fun a ha => put_has g ?_⟩
        by_cases q : a = i
        · exact .inl ⟨q, rfl⟩
        · exact .inr (h2 a (by omega))
theorem seg_all (w : List Int) : seg w 0 w.length = w := by unfold seg; rw [List.drop_zero, List.take_length]
theorem short_eq (w : List Int) (hw : ∀ x ∈ w, 0 ≤ x ∧ x ≤ 7) (hl : w.length ≤ 24) : lk 1 m_need_short [tI w] = .ok .non := by
  refine res_of_W ?_
  rw [W_lk]
  unfold m_need_short body_need_short
  trivial
  refine ⟨by rw [List.length_map]; show _ ≤ 16777216; omega, ?_⟩
  unfold wipeS wipeS
  trivial
  refine lc_res (fun _ => none) (fun d hd => ?_) ?_
  · obtain ⟨x, hx, rfl⟩ := List.mem_map.mp hd
    obtain ⟨h0, h7⟩ := hw x hx
    refine ⟨_, rfl, .inr ⟨rfl, res_of_W ?_⟩⟩
    trivial
    rw [is_in_eq]
    trivial
    rw [decide_eq_true h0, decide_eq_true (by omega)]
    rfl
  · rw [show List.filterMap (fun (_ : D) => (none : Option D)) (w.map D.int) = [] by simp]
    refine ⟨.bl false, rfl, false, rfl, ?_⟩
    rw [if_neg Bool.false_ne_true, List.length_map, if_neg (by rw [decide_eq_true_eq]; omega)]
    trivial
theorem Good.nil : Good [] 0 .nil := ⟨trivial, rfl, rfl, .inl ⟨rfl, rfl⟩⟩
theorem tI_nil : (D.tup [] : D) = tI [] := rfl
theorem folded_eq (w : List Int) (hw : ∀ x ∈ w, 0 ≤ x ∧ x ≤ 7) (hl : w.length ≤ 24) : ∃ n l, lk 1 m_folded [tI w] = .ok (.tup l.items) ∧ Good w n l := by
  suffices H : W (lk 1 m_folded [tI w]) () (fun d _ => ∃ n l, d = .tup l.items ∧ Good w n l) by
    obtain ⟨d, e, n, l, rfl, g⟩ := W_res.mp H
    exact ⟨n, l, e, g⟩
  obtain ⟨dd, ed, hd⟩ := folds_eq w hw hl
  rw [W_lk]
  unfold m_folded body_folded
  trivial
  rw [short_eq w hw hl]
  trivial
  rw [tI_nil, neD_tI]
  trivial
  by_cases e : w = []
  · subst e
    rw [if_neg (by simp)]
    exact ⟨0, .nil, rfl, Good.nil⟩
  · obtain ⟨n, l, e2, g⟩ := hd 0 w.length (List.length_pos_iff.mpr e) (by omega)
    rw [seg_all] at g
    rw [if_pos (by simp [e]), ed]
    trivial
    rw [List.length_map, show ixD dd (.tup [.int 0, .int w.length]) = _ from e2]
    unfold enc
    trivial
    exact ⟨n, l, rfl, g⟩
theorem fsize_eq (w : List Int) (hw : ∀ x ∈ w, 0 ≤ x ∧ x ≤ 7) (hl : w.length ≤ 24) : ∃ n : Nat, lk 1 m_fold_size [tI w] = .ok (.int n) ∧ IsF n w := by
  suffices H : W (lk 1 m_fold_size [tI w]) () (fun d _ => ∃ n : Nat, d = .int n ∧ IsF n w) by
    obtain ⟨d, e, n, rfl, g⟩ := W_res.mp H
    exact ⟨n, e, g⟩
  obtain ⟨dd, ed, hd⟩ := folds_eq w hw hl
  rw [W_lk]
  unfold m_fold_size body_fold_size
  trivial
  rw [short_eq w hw hl]
  trivial
  rw [tI_nil, neD_tI]
  trivial
  by_cases e : w = []
  · subst e
    rw [if_neg (by simp)]
    exact ⟨0, rfl, .inl ⟨rfl, rfl⟩⟩
  · obtain ⟨n, l, e2, g⟩ := hd 0 w.length (List.length_pos_iff.mpr e) (by omega)
    rw [seg_all] at g
    rw [if_pos (by simp [e]), ed]
    trivial
    rw [List.length_map, show ixD dd (.tup [.int 0, .int w.length]) = _ from e2]
    unfold enc
    trivial
    exact ⟨n, rfl, g.min⟩
theorem shows_eq (w : List Int) (hw : ∀ x ∈ w, 0 ≤ x ∧ x ≤ 7) (hl : w.length ≤ 24) (l : Lp) (h1 : l.ok) (h2 : l.dep ≤ 8) (h3 : l.unr = w) {n : Nat} (hn : IsF n w) : lk 2 m_shows_fold [tI w, .tup l.items] = .ok (.bl (decide (l.app.length = n))) := by
  obtain ⟨dd, ed, hd⟩ := folds_eq w hw hl
  refine res_of_W ?_
  rw [W_lk]
  unfold m_shows_fold body_shows_fold
  trivial
  rw [short_eq w hw hl]
  trivial
  rw [size_eq 12 l 8 h1 (by omega) (by omega) (by rw [h3]; omega), unr_eq 12 l h1 (by omega) (by rw [h3]; omega), app_eq 12 l h1 (by omega) (by rw [h3]; omega)]
  trivial
  rw [List.length_map, h3, if_neg (by simp)]
  trivial
  rw [if_neg (by simp), tI_nil, neD_tI]
  trivial
  by_cases e : w = []
  · subst e
    have e0 := hn.nil
    subst e0
    rw [if_neg (by simp), List.length_map]
    simp
  · obtain ⟨n', l', e2, g⟩ := hd 0 w.length (List.length_pos_iff.mpr e) (by omega)
    rw [seg_all] at g
    have en := g.min.uniq hn
    subst en
    rw [if_pos (by simp [e]), ed]
    trivial
    rw [show ixD dd (.tup [.int 0, .int w.length]) = _ from e2]
    unfold enc
    trivial
    rw [List.length_map]
    simp
    exact Int.ofNat_inj
theorem need_eq (l : Lp) (h1 : l.ok) (h2 : l.dep ≤ 8) (h3 : l.unr.length ≤ 1000) : lk 1 m_need_loop [.tup l.items] = .ok .non := by
  refine res_of_W ?_
  rw [W_lk]
  unfold m_need_loop body_need_loop
  trivial
  rw [size_eq 12 l 8 h1 (by omega) (by omega) (by omega)]
  trivial
theorem unrolled_eq (l : Lp) (h1 : l.ok) (h2 : l.dep ≤ 8) (h3 : l.unr.length ≤ 1000) : lk 1 m_unrolled [.tup l.items] = .ok (tI l.unr) := by
  refine res_of_W ?_
  rw [W_lk]
  unfold m_unrolled body_unrolled
  trivial
  rw [need_eq l h1 h2 h3, unr_eq 12 l h1 (by omega) h3]
  trivial
theorem appearances_eq (l : Lp) (h1 : l.ok) (h2 : l.dep ≤ 8) (h3 : l.unr.length ≤ 1000) : lk 1 m_appearances [.tup l.items] = .ok (tI l.app) := by
  refine res_of_W ?_
  rw [W_lk]
  unfold m_appearances body_appearances
  trivial
  rw [need_eq l h1 h2 h3, app_eq 12 l h1 (by omega) h3]
  trivial
theorem depth_eq (l : Lp) (h1 : l.ok) (h2 : l.dep ≤ 8) (h3 : l.unr.length ≤ 1000) : lk 1 m_depth [.tup l.items] = .ok (.int l.dep) := by
  refine res_of_W ?_
  rw [W_lk]
  unfold m_depth body_depth
  trivial
  rw [need_eq l h1 h2 h3, deep_eq 12 l h1 (by omega) h3]
  trivial
theorem plains_items : ∀ l : Lp, D.plains l.items = true
  | .nil => rfl
  | .b n q => by show (true && D.plains q.items) = true; rw [plains_items q]; rfl
  | .r t y q => by show ((true && (D.plains y.items && true)) && D.plains q.items) = true; rw [plains_items q, plains_items y]; rfl
theorem depth_items : ∀ l : Lp, PyData.depthAll (D.pys l.items) ≤ 2 * l.dep
  | .nil => by show PyData.depthAll [] ≤ _; simp [PyData.depthAll]
  | .b n q => by
    have := depth_items q
    show PyData.depthAll (.int n :: D.pys q.items) ≤ 2 * q.dep
    simp only [PyData.depthAll, PyData.depth]; omega
  | .r t y q => by
    have h1 := depth_items q
    have h2 := depth_items y
    show PyData.depthAll (.tuple [.int t, .tuple (D.pys y.items)] :: D.pys q.items) ≤ 2 * max (1 + y.dep) q.dep
    simp only [PyData.depthAll, PyData.depth]; omega
theorem data_items (l : Lp) (h : l.dep ≤ 20) : (D.tup l.items).data = true := by
  show (D.plains _ && decide (PyData.depth (.tuple (D.pys l.items)) ≤ 64)) = true
  rw [plains_items, decide_eq_true (by have := depth_items l; simp only [PyData.depth]; omega)]
  rfl
theorem eqv_items : ∀ (l : Lp) (xs : List Int), PyData.eqvAll (D.pys l.items) (D.pys (xs.map D.int)) = decide (l.dep = 0 ∧ l.unr = xs)
  | .nil, [] => by simp [Lp.items, Lp.dep, Lp.unr, D.pys, PyData.eqvAll]
  | .nil, x :: xs => by simp [Lp.items, Lp.dep, Lp.unr, D.pys, PyData.eqvAll]
  | .b n q, [] => by simp [Lp.items, Lp.dep, Lp.unr, D.pys, PyData.eqvAll]
  | .b n q, x :: xs => by
    have := eqv_items q xs
    simp only [Lp.items, Lp.dep, Lp.unr, List.map_cons, D.pys, D.py, PyData.eqvAll, this]
    by_cases h : n = x
    · subst h; simp [PyData.eqv]
    · simp [PyData.eqv, h]
  | .r t y q, [] => by simp [Lp.items, Lp.dep, D.pys, PyData.eqvAll]
  | .r t y q, x :: xs => by simp [Lp.items, Lp.dep, D.pys, D.py, PyData.eqvAll, PyData.eqv]
theorem eqD_items (l : Lp) (h : l.dep ≤ 20) (xs : List Int) : eqD (.tup l.items) (tI xs) = .ok (.bl (decide (l.dep = 0 ∧ l.unr = xs))) := by
  show (if _ then _ else _) = _
  rw [if_pos (by rw [data_tI, data_items l h]; rfl)]
  show Res.ok (D.bl (PyData.eqv (.tuple _) (.tuple _))) = _
  rw [show PyData.eqv (.tuple (D.pys l.items)) (.tuple (D.pys (xs.map D.int))) = PyData.eqvAll (D.pys l.items) (D.pys (xs.map D.int)) by simp [PyData.eqv], eqv_items]
theorem neD_items (l : Lp) (h : l.dep ≤ 20) (xs : List Int) : neD (.tup l.items) (tI xs) = .ok (.bl (!decide (l.dep = 0 ∧ l.unr = xs))) := by
  show (if _ then _ else _) = _
  rw [if_pos (by rw [data_tI, data_items l h]; rfl)]
  show Res.ok (D.bl (!PyData.eqv (.tuple _) (.tuple _))) = _
  rw [show PyData.eqv (.tuple (D.pys l.items)) (.tuple (D.pys (xs.map D.int))) = PyData.eqvAll (D.pys l.items) (D.pys (xs.map D.int)) by simp [PyData.eqv], eqv_items]
/-! ### the law's own helpers -/
theorem lunr_go (k : Nat) (ih : ∀ l : Lp, l.ok → l.dep < k → l.unr.length ≤ 10000 → lk 1 (m__law_unrolled k) [.tup l.items] = .ok (tI l.unr)) (v : D) (q : Fl → Unit → Prop) :
    ∀ (l : Lp) (acc : List Int) (x y : Sl), l.ok → l.dep < k + 1 → acc.length + l.unr.length ≤ 10000 → (∀ x y, q (.nx [.sh v, .sh (tI (acc ++ l.unr)), x, y]) ()) →
      W (forGo (gN 2) (lp__law_unrolled_2 (m__law_unrolled k)) l.items [.sh v, .sh (tI acc), x, y]) () q := by
  intro l
  induction l with
  | nil => intro acc x y h1 h2 h3 h4; refine W_for_nil.mpr ?_; have := h4 x y; rw [show Lp.nil.unr = [] from rfl, List.append_nil] at this; exact this
  | b n r ir =>
    intro acc x y h1 h2 h3 h4
    obtain ⟨h0, h7, h1⟩ := h1
    rw [show (Lp.b n r).unr = n :: r.unr from rfl, List.length_cons] at h3
    refine W_step (by unfold lp__law_unrolled_2; exact rfl) rfl ?_
    trivial
    rw [show rng1 [.int 0] = .ok [] from rfl]
    trivial
    rw [addD_tup _ _ (by rw [List.length_map]; show acc.length + 1 ≤ 16777216; omega)]
    trivial
    rw [show acc.map D.int ++ [D.int n] = (acc ++ [n]).map D.int by rw [List.map_append]; rfl]
    refine ir (acc ++ [n]) _ _ h1 h2 (by rw [List.length_append, List.length_singleton]; omega) fun x y => ?_
    have := h4 x y
    rw [show (Lp.b n r).unr = n :: r.unr from rfl] at this
    rw [List.append_assoc]
    exact this
  | r t b r ib ir =>
    intro acc x y h1 h2 h3 h4
    obtain ⟨ht, ht2, hne, hy, hr⟩ := h1
    have dy : 1 + b.dep ≤ (Lp.r t b r).dep := Nat.le_max_left _ _
    have dr : r.dep ≤ (Lp.r t b r).dep := Nat.le_max_right _ _
    have eu : (Lp.r t b r).unr = (List.replicate t b.unr).flatten ++ r.unr := rfl
    rw [eu, List.length_append, rep_len] at h3
    have l2 : b.unr.length ≤ t * b.unr.length := Nat.le_mul_of_pos_left _ (by omega)
    refine W_step (by unfold lp__law_unrolled_2; exact rfl) rfl ?_
    trivial
    rw [rng1_nat _ (by omega)]
    trivial
    refine W_rng (fun j ρ _ => ∃ y, ρ = [.sh v, .sh (tI (acc ++ (List.replicate j b.unr).flatten)), .sh (.tup [.int t, .tup b.items]), y]) ⟨y, by simp⟩ (fun ρ z h => ?_) fun j ρ z hj h => ?_
    · obtain ⟨y, rfl⟩ := h
      trivial
      rw [addD_tup _ _ (by rw [List.length_map, List.length_append, rep_len]; show _ + 0 ≤ 16777216; omega)]
      trivial
      refine ir (acc ++ (List.replicate t b.unr).flatten) _ _ hr (by omega) (by rw [List.length_append, rep_len]; omega) fun x y => ?_
      have := h4 x y
      rw [eu, ← List.append_assoc] at this
      exact this
    · obtain ⟨y, rfl⟩ := h
      have lj : j * b.unr.length + b.unr.length ≤ t * b.unr.length := by rw [← Nat.succ_mul]; exact Nat.mul_le_mul_right _ hj
      refine ⟨_, rfl, ?_⟩
      unfold lp__law_unrolled_1
      trivial
      rw [ih b hy (by omega) (by omega)]
      trivial
      rw [addD_tup _ _ (by rw [List.length_map, List.length_map, List.length_append, rep_len]; show _ ≤ 16777216; omega)]
      trivial
      refine ⟨_, by rw [← List.map_append, List.append_assoc, show (List.replicate (j + 1) b.unr).flatten = (List.replicate j b.unr).flatten ++ b.unr by rw [List.replicate_succ', List.flatten_append]; simp]⟩
theorem lunr_eq : ∀ (k : Nat) (l : Lp), l.ok → l.dep < k → l.unr.length ≤ 10000 → lk 1 (m__law_unrolled k) [.tup l.items] = .ok (tI l.unr)
  | 0, l, _, h, _ => absurd h (Nat.not_lt_zero _)
  | k + 1, l, h1, h2, h3 => by
    refine res_of_W ?_
    rw [W_lk]
    unfold m__law_unrolled
    rw [W_runB]
    unfold body__law_unrolled
    trivial
    refine lunr_go k (lunr_eq k) _ _ l [] _ _ h1 h2 (by simpa using h3) fun x y => ?_
    trivial
theorem unr_ne {l : Lp} (h : l.ok) (e : l.items ≠ []) : l.unr ≠ [] := fun q => by
  have := items_len l h
  rw [q] at this
  exact e (List.length_eq_zero_iff.mp (Nat.le_zero.mp this))
/-- the greatest length of a drawn loop's item -/
def cap : Nat → Nat
  | 0 => 12
  | d + 1 => 4 * (3 * cap d)
theorem cap_pos : ∀ d, 1 ≤ cap d
  | 0 => by show 1 ≤ 12; omega
  | d + 1 => by have := cap_pos d; show 1 ≤ 4 * (3 * cap d); omega
def LI (row : Addr) (d m j : Nat) (ρ : Sto) : Prop := ∃ (l : Lp) (x y : Sl), ρ = [.sh (.ref row), .sh (.int d), .sh (.int m), .sh (.tup l.items), x, y] ∧ l.ok ∧ l.dep ≤ d ∧ l.unr.length ≤ j * cap d ∧ l.items.length ≤ j
theorem LI.add {row : Addr} {d m j : Nat} {l : Lp} {x y x' y' : Sl} {is : List D} (h1 : l.ok) (h2 : l.dep ≤ d) (h3 : l.unr.length ≤ j * cap d) (h4 : l.items.length ≤ j) (hj : j ≤ 3) (it : Lp) (e : is = it.items) (o1 : it.ok) (o2 : it.dep ≤ d) (o3 : it.unr.length ≤ cap d) (o4 : it.items.length = 1) :
    ∃ r, addD (.tup l.items) (.tup is) = .ok r ∧ LI row d m (j + 1) [.sh (.ref row), .sh (.int d), .sh (.int m), .sh r, x', y'] := by
  subst e
  refine ⟨_, addD_tup _ _ (by show _ ≤ 16777216; omega), l.cat it, x', y', by rw [items_cat], ok_cat _ _ h1 o1, by rw [dep_cat]; omega, by rw [unr_cat, List.length_append, Nat.succ_mul]; omega, by rw [items_cat, List.length_append]; omega⟩
theorem lloop (ns : List Int) (row : Addr) : ∀ (k d m : Nat) (z : Dr) (p : D → Dr → Prop), d < k → m ≤ 3 → d ≤ 2 → (∀ (l : Lp) (z' : Dr), l.ok → l.dep ≤ d → l.unr.length ≤ m * cap d → p (.tup l.items) z') → W (lk 3 (m__law_loop ns row k) [.ref row, .int d, .int m]) z p
  | 0, d, m, z, p, h, _, _, _ => absurd h (Nat.not_lt_zero _)
  | k + 1, d, m, z, p, hd, hm, hd2, hp => by
    rw [W_lk]
    unfold m__law_loop
    rw [W_runB]
    unfold body__law_loop
    trivial
    refine W_taken (by omega) (by omega) fun v z' v0 v1 => ?_
    obtain ⟨n, rfl⟩ : ∃ n : Nat, v = n := ⟨v.toNat, by omega⟩
    rw [rng1_nat _ (by omega)]
    trivial
    refine W_rng (fun j ρ _ => LI row d m j ρ) ⟨.nil, _, _, rfl, trivial, Nat.zero_le _, Nat.zero_le _, Nat.le_refl _⟩ (fun ρ z h => ?_) fun j ρ z hj h => ?_
    · obtain ⟨l, x, y, rfl, h1, h2, h3, h4⟩ := h
      trivial
      exact hp l z h1 h2 (Nat.le_trans h3 (Nat.mul_le_mul_right _ (by omega)))
    · obtain ⟨l, x, y, rfl, h1, h2, h3, h4⟩ := h
      refine ⟨_, rfl, ?_⟩
      unfold lp__law_loop_1
      trivial
      have bp := cap_pos d
      have flat : ∀ (v : Int) (z : Dr) (s : Sl), 0 ≤ v → v < 4 → ∃ r, addD (.tup l.items) (.tup [.int v]) = .ok r ∧ LI row d m (j + 1) [.sh (.ref row), .sh (.int d), .sh (.int m), .sh r, .sh (.int (0 + j)), s] := fun v z s a b =>
        LI.add (x := x) (y := y) h1 h2 h3 h4 (by omega) (.b v .nil) rfl ⟨a, by omega, trivial⟩ (Nat.zero_le _) (by show 1 ≤ _; omega) rfl
      have none : ∀ (s : Sl) (z : Dr), W (lk 2 (l2 (m_taken ns row)) [D.ref row, D.int 4]) z (fun d_1 z_1 => ∃ r, addD (D.tup l.items) (D.tup [d_1]) = Res.ok r ∧ LI row d m (j + 1) [Sl.sh (D.ref row), Sl.sh (D.int d), Sl.sh (D.int m), Sl.sh r, Sl.sh (D.int (0 + j)), s]) :=
        fun s z => W_taken (by omega) (by omega) fun v z a b => flat v z s a b
      by_cases d0 : d = 0
      · rw [if_neg (by rw [decide_eq_true_eq]; omega)]
        refine ⟨.bl false, rfl, false, rfl, ?_⟩
        rw [if_neg Bool.false_ne_true]
        exact none _ z
      · rw [if_pos (by rw [decide_eq_true_eq]; omega)]
        refine W_taken (by omega) (by omega) fun v z v0 v1 => ?_
        trivial
        by_cases hv : v = 0
        · rw [if_pos (by rw [decide_eq_true_eq]; exact hv)]
          obtain ⟨d', rfl⟩ : ∃ d', d = d' + 1 := ⟨d - 1, by omega⟩
          rw [show ((d' + 1 : Nat) : Int) - 1 = (d' : Int) by omega, show (D.int 3 : D) = .int ((3 : Nat) : Int) from rfl]
          refine lloop ns row k d' 3 z _ (by omega) (by omega) (by omega) fun lb z o1 o2 o3 => ?_
          rw [tI_nil, neD_items lb (by omega) []]
          trivial
          by_cases hb : lb.dep = 0 ∧ lb.unr = []
          · rw [if_neg (by simp [hb])]
            exact none _ z
          · rw [if_pos (by simp [hb])]
            have ne : lb.unr ≠ [] := fun q => by
              have hi := items_len lb o1
              rw [q] at hi
              refine hb ⟨?_, q⟩
              cases lb with
              | nil => rfl
              | b _ _ => exact absurd hi (by show ¬ (_ + 1 ≤ 0); omega)
              | r _ _ _ => exact absurd hi (by show ¬ (_ + 1 ≤ 0); omega)
            refine W_taken (by omega) (by omega) fun v2 z a0 a1 => ?_
            trivial
            obtain ⟨n2, rfl⟩ : ∃ n2 : Nat, v2 = n2 := ⟨v2.toNat, by omega⟩
            refine LI.add (x := x) (y := y) h1 h2 h3 h4 (by omega) (.r (2 + n2) lb .nil) ?_ ⟨by omega, by omega, ne, o1, trivial⟩ ?_ ?_ rfl
            · show _ = [D.tup [.int ((2 + n2 : Nat) : Int), .tup lb.items]]
              rw [show (2 : Int) + (n2 : Int) = ((2 + n2 : Nat) : Int) by omega]
            · show max (1 + lb.dep) 0 ≤ d' + 1; omega
            · show ((List.replicate (2 + n2) lb.unr).flatten ++ []).length ≤ 4 * (3 * cap d')
              rw [List.append_nil, rep_len]
              exact Nat.mul_le_mul (by omega) o3
        · rw [if_neg (by rw [decide_eq_true_eq]; exact hv)]
          refine ⟨.bl false, rfl, false, rfl, ?_⟩
          rw [if_neg Bool.false_ne_true]
          exact none _ z
structure Ord (left found : List Int) (j : Nat) : Prop where
  ll : left.length + j = 8
  lf : found.length = j
  nd : (left ++ found).Nodup
  rg : ∀ x ∈ left ++ found, 0 ≤ x ∧ x ≤ 7
theorem Ord.step {left found : List Int} {j n : Nat} (h : Ord left found j) (hn : n < left.length) : Ord (left.take n ++ left.drop (n + 1)) (found ++ [left[n]]) (j + 1) := by
  have p : (left.take n ++ left.drop (n + 1) ++ (found ++ [left[n]])).Perm (left ++ found) := by
    have e : left = left.take n ++ (left[n] :: left.drop (n + 1)) := by rw [← List.drop_eq_getElem_cons hn, List.take_append_drop]
    have h1 : (left ++ found).Perm (left.take n ++ (left[n] :: left.drop (n + 1)) ++ found) := by rw [← e]
    refine List.Perm.trans ?_ h1.symm
    rw [List.append_assoc, List.append_assoc]
    refine List.Perm.append_left _ ?_
    rw [← List.append_assoc]
    exact List.perm_append_singleton _ _
  refine ⟨by have := h.ll; rw [List.length_append, List.length_take, List.length_drop]; omega, by rw [List.length_append, h.lf]; rfl, p.symm.nodup h.nd, fun x hx => h.rg x (p.subset hx)⟩
theorem order_eq (ns : List Int) (row : Addr) (z : Dr) (p : D → Dr → Prop) (hp : ∀ (o : List Int) (z' : Dr), o.length = 8 → o.Nodup → (∀ x ∈ o, 0 ≤ x ∧ x ≤ 7) → p (.lst (o.map .int)) z') : W (lk 2 (m__law_order ns row) [.ref row, .int 8]) z p := by
  rw [W_lk]
  unfold m__law_order
  rw [W_runB]
  unfold body__law_order
  trivial
  refine ⟨⟨by omega, by omega⟩, ?_⟩
  rw [show rangeD 0 (8 : Int).toNat = ([0, 1, 2, 3, 4, 5, 6, 7] : List Int).map .int from rfl, show rng1 [.int 8] = .ok (rangeD 0 8) from rng1_nat 8 (by omega)]
  trivial
  refine W_rng (fun j ρ _ => ∃ left found x y, ρ = [.sh (.ref row), .sh (.int 8), .sh (.lst (left.map .int)), .ow (.lst (found.map .int)), x, y] ∧ Ord left found j) ⟨[0, 1, 2, 3, 4, 5, 6, 7], [], _, _, rfl, ⟨rfl, rfl, by decide, by decide⟩⟩ (fun ρ z h => ?_) fun j ρ z hj h => ?_
  · obtain ⟨left, found, x, y, rfl, h⟩ := h
    trivial
    unfold frz1
    trivial
    refine hp found z h.lf (List.nodup_append.mp h.nd).2.1 fun x hx => h.rg x (List.mem_append_right _ hx)
  · obtain ⟨left, found, x, y, rfl, h⟩ := h
    have hll := h.ll
    have hlf := h.lf
    refine ⟨_, rfl, ?_⟩
    unfold lp__law_order_1
    trivial
    rw [List.length_map]
    refine W_taken (by omega) (by omega) fun v z v0 v1 => ?_
    obtain ⟨n, rfl⟩ : ∃ n : Nat, v = n := ⟨v.toNat, by omega⟩
    have hn : n < left.length := by omega
    trivial
    rw [ixD_l (atI_nat' rfl (by rw [List.getElem?_map, List.getElem?_eq_getElem hn]; rfl))]
    trivial
    refine ⟨by rw [List.length_map]; show _ < 16777216; omega, ?_⟩
    rw [cutD_to, show (n : Int) + 1 = ((n + 1 : Nat) : Int) by omega, cutD_from, addD_lst _ _ (by rw [List.length_take, List.length_drop, List.length_map]; show _ ≤ 16777216; omega)]
    trivial
    exact ⟨left.take n ++ left.drop (n + 1), found ++ [left[n]], _, _, by rw [List.map_append, List.map_append, List.map_take, List.map_drop]; rfl, h.step hn⟩
theorem cut6 (u : List Int) : cutD (u.map D.int) none (some 6) = (u.take 6).map D.int := by
  rw [show (6 : Int) = ((6 : Nat) : Int) from rfl, cutD_to, List.map_take]
theorem unr_rg : ∀ l : Lp, l.ok → ∀ x ∈ l.unr, 0 ≤ x ∧ x ≤ 7
  | .nil, _, x, hx => nomatch hx
  | .b n q, ⟨a, b, c⟩, x, hx => by
    rcases List.mem_cons.mp hx with rfl | hx
    · exact ⟨a, b⟩
    · exact unr_rg q c x hx
  | .r t y q, ⟨_, _, _, h4, h5⟩, x, hx => by
    rcases List.mem_append.mp hx with hx | hx
    · obtain ⟨u, hu, hx⟩ := List.mem_flatten.mp hx
      rw [(List.mem_replicate.mp hu).2] at hx
      exact unr_rg y h4 x hx
    · exact unr_rg q h5 x hx
theorem law_W (ns : List Int) (row script : Addr) (z : Dr) : W (body_law ns row (.sh (.ref script) :: .sh (.ref row) :: List.replicate 8 .no)) z (fun r _ => r = .rt (.bl true)) := by
  unfold body_law
  trivial
  refine lloop ns row 6 2 3 _ _ (by omega) (by omega) (by omega) fun l0 z o1 o2 o3 => ?_
  have o4 : l0.unr.length ≤ 3 * 1728 := o3
  rw [lunr_eq 6 l0 o1 (by omega) (by omega)]
  trivial
  rw [cut6]
  have hone : ∀ x ∈ l0.unr.take 6, 0 ≤ x ∧ x ≤ 7 := fun x hx => unr_rg l0 o1 x (List.mem_of_mem_take hx)
  have lone : (l0.unr.take 6).length ≤ 6 := by rw [List.length_take]; omega
  generalize l0.unr.take 6 = one at hone lone
  clear o1 o2 o3 o4 l0
  refine W_taken (by omega) (by omega) fun v z v0 v1 => ?_
  obtain ⟨n, rfl⟩ : ∃ n : Nat, v = n := ⟨v.toNat, by omega⟩
  rw [rng1_nat _ (by omega)]
  trivial
  refine ⟨by rw [rangeD_length]; show _ ≤ 16777216; omega, ?_⟩
  unfold wipeS wipeS
  trivial
  refine lc_all (fun _ y => ∃ v : Int, y = .int v ∧ 0 ≤ v ∧ v < 3) (fun d _ z => ⟨_, rfl, ?_⟩) fun ys z hl hy => ?_
  · trivial
    exact W_taken (by omega) (by omega) fun v z a b => ⟨v, rfl, a, b⟩
  obtain ⟨other, rfl, hother⟩ : ∃ other : List Int, ys = other.map .int ∧ ∀ x ∈ other, 0 ≤ x ∧ x < 3 := by
    clear hl
    induction ys with
    | nil => exact ⟨[], rfl, fun x hx => nomatch hx⟩
    | cons y ys ih =>
      obtain ⟨o, e, h⟩ := ih fun y hm => hy y (List.mem_cons_of_mem _ hm)
      obtain ⟨_, _, v, rfl, a, b⟩ := hy y List.mem_cons_self
      exact ⟨v :: o, by rw [e]; rfl, fun x hx => by
        rcases List.mem_cons.mp hx with rfl | hx
        · exact ⟨a, b⟩
        · exact h x hx⟩
  rw [List.length_map, rangeD_length] at hl
  have lother : other.length ≤ 6 := by omega
  clear hl hy v0 v1
  have rother : ∀ x ∈ other, 0 ≤ x ∧ x ≤ 7 := fun x hx => by have := hother x hx; omega
  simp only [W_sAsg]
  trivial
  obtain ⟨f1, e1, i1⟩ := fsize_eq one hone (by omega)
  obtain ⟨f2, e2, i2⟩ := fsize_eq other rother (by omega)
  rw [e1]
  trivial
  rw [e2]
  trivial
  refine order_eq ns row z _ fun o z ho1 ho2 ho3 => ?_
  refine ⟨_, rfl, ?_⟩
  trivial
  -- joined, said twice, back to front
  have w3 : ∀ x ∈ one ++ other, 0 ≤ x ∧ x ≤ 7 := fun x hx => (List.mem_append.mp hx).elim (hone x) (rother x)
  have l3 : (one ++ other).length ≤ 12 := by rw [List.length_append]; omega
  obtain ⟨f3, e3, i3⟩ := fsize_eq (one ++ other) w3 (by omega)
  have a3 : addD (tI one) (tI other) = .ok (tI (one ++ other)) := by rw [addD_tup _ _ (by rw [List.length_map, List.length_map]; show _ ≤ 16777216; omega), ← List.map_append]
  rw [a3]
  trivial
  rw [e3]
  trivial
  have c3 := f_cat i1 i2 i3
  rw [if_neg (by rw [decide_eq_true_eq]; omega)]
  have hrep : ∀ k : Nat, k ≤ 3 → (∀ x ∈ (List.replicate k one).flatten, 0 ≤ x ∧ x ≤ 7) ∧ (List.replicate k one).flatten.length ≤ 18 := fun k hk => by
    refine ⟨fun x hx => ?_, ?_⟩
    · obtain ⟨u, hu, hx⟩ := List.mem_flatten.mp hx
      rw [(List.mem_replicate.mp hu).2] at hx
      exact hone x hx
    · rw [rep_len]
      have : k * one.length ≤ 3 * 6 := Nat.mul_le_mul hk lone
      omega
  have m2 : mulD (tI one) (.int 2) = .ok (tI (List.replicate 2 one).flatten) := mulD_any one 2 (by omega) (by omega) (by omega)
  obtain ⟨f4, e4, i4⟩ := fsize_eq _ (hrep 2 (by omega)).1 (Nat.le_trans (hrep 2 (by omega)).2 (by omega))
  rw [m2]
  trivial
  rw [e4]
  trivial
  have c4 := f_rep i1 (Nat.le_refl 2) i4
  rw [if_neg (by rw [decide_eq_true_eq]; omega), ← List.map_reverse]
  obtain ⟨f5, e5, i5⟩ := fsize_eq one.reverse (fun x hx => hone x (List.mem_reverse.mp hx)) (by rw [List.length_reverse]; omega)
  rw [e5]
  trivial
  have c5 := f_rev i1 i5
  subst c5
  rw [if_neg (by simp)]
  -- other names
  refine ⟨by rw [List.length_map]; show _ ≤ 16777216; omega, ?_⟩
  let g : Int → Int := fun v => o.getD v.toNat 0
  have hg : ∀ v : Int, 0 ≤ v → v < 8 → L2.atI (o.map D.int) v = some (.int (g v)) := fun v a b => by
    have hv : v.toNat < o.length := by omega
    refine atI_nat' (k := v.toNat) (by omega) ?_
    show _ = some (D.int (o.getD v.toNat 0))
    rw [List.getElem?_map, List.getD_eq_getElem?_getD, List.getElem?_eq_getElem hv]
    rfl
  have gr : ∀ v : Int, 0 ≤ v → v < 8 → g v ∈ o := fun v a b => by
    have hv : v.toNat < o.length := by omega
    show o.getD v.toNat 0 ∈ o
    rw [List.getD_eq_getElem?_getD, List.getElem?_eq_getElem hv]
    exact List.getElem_mem hv
  have gi : ∀ u v : Int, 0 ≤ u → u < 8 → 0 ≤ v → v < 8 → g u = g v → u = v := fun u v a b c d e => by
    have hu : u.toNat < o.length := by omega
    have hv : v.toNat < o.length := by omega
    have e : o.getD u.toNat 0 = o.getD v.toNat 0 := e
    rw [List.getD_eq_getElem?_getD, List.getD_eq_getElem?_getD, List.getElem?_eq_getElem hu, List.getElem?_eq_getElem hv] at e
    have := (List.getElem_inj ho2).mp e
    omega
  refine lc_gen (fun d => match d with | .int v => some (.int (g v)) | _ => none) (fun d hd => ?_) ?_
  · obtain ⟨v, hv, rfl⟩ := List.mem_map.mp hd
    have hv := hother v hv
    refine ⟨_, rfl, .inl ⟨_, rfl, fun z p h => ?_, fun z p h => ?_⟩⟩
    · trivial
      exact h
    · trivial
      rw [ixD_l (hg v hv.1 (by omega))]
      trivial
      exact h
  have efm : List.filterMap (fun d => match d with | D.int v => some (D.int (g v)) | _ => none) (other.map D.int) = (other.map g).map D.int := by
    rw [List.filterMap_map, List.map_map]
    have : ((fun d => match d with | D.int v => some (D.int (g v)) | _ => none) ∘ D.int) = some ∘ (D.int ∘ g) := rfl
    rw [this, List.filterMap_eq_map]
  rw [efm]
  obtain ⟨f6, e6, i6⟩ := fsize_eq (other.map g) (fun x hx => by
    obtain ⟨v, hv, rfl⟩ := List.mem_map.mp hx
    have := hother v hv
    exact ho3 _ (gr v this.1 (by omega))) (by rw [List.length_map]; omega)
  rw [e6]
  trivial
  have c6 : f6 = f2 := f_map g (fun y => if y = g 0 then 0 else if y = g 1 then 1 else 2) (fun x hx => by
    obtain ⟨a, b⟩ := hother x hx
    show (if g x = g 0 then 0 else if g x = g 1 then 1 else 2) = x
    by_cases x0 : x = 0
    · subst x0; rw [if_pos rfl]
    · rw [if_neg (fun e => x0 (gi _ _ a (by omega) (by omega) (by omega) e))]
      by_cases x1 : x = 1
      · subst x1; rw [if_pos rfl]
      · rw [if_neg (fun e => x1 (gi _ _ a (by omega) (by omega) (by omega) e))]; omega) i2 i6
  subst c6
  rw [if_neg (by simp)]
  -- a new letter ahead
  have w7 : ∀ x ∈ 7 :: other, 0 ≤ x ∧ x ≤ 7 := fun x hx => by
    rcases List.mem_cons.mp hx with rfl | hx
    · exact ⟨by omega, by omega⟩
    · exact rother x hx
  obtain ⟨f7, e7, i7⟩ := fsize_eq (7 :: other) w7 (by rw [List.length_cons]; omega)
  rw [show addD (.tup [.int 7]) (tI other) = .ok (tI (7 :: other)) from addD_tup [.int 7] _ (by rw [List.length_map]; show 1 + _ ≤ 16777216; omega)]
  trivial
  rw [e7]
  trivial
  have c7 := f_new i2 (fun h => by have := hother 7 h; omega) i7
  subst c7
  rw [if_neg (by simp)]
  -- between the letters and the length
  have hset : lenSetD (tI one) = .ok (.int ((dedupI one).length : Nat)) := by
    show (match intsD (one.map D.int) with | some is => if is.length ≤ 4000 then Res.ok (D.int ((dedupI is).length : Nat)) else .bad | none => .bad : Res D) = _
    rw [intsD_map]
    exact if_pos (by omega)
  rw [hset]
  trivial
  have d1 := f_dist i1
  have n1 := f_len i1
  rw [List.length_map, if_neg (by rw [decide_eq_true_eq]; omega), if_neg (by rw [decide_eq_true_eq]; omega)]
  obtain ⟨q1, la, ea, ga⟩ := folded_eq one hone (by omega)
  have eq1 := ga.min.uniq i1
  subst eq1
  have dep_le : ∀ (l : Lp) (x : List Int), l.ok → l.unr = x → x.length ≤ 24 → l.dep ≤ 4 := fun l x o u hx => by
    by_cases e : l.unr = []
    · have := items_len l o
      rw [e] at this
      cases l with
      | nil => exact Nat.zero_le _
      | b _ _ => exact absurd this (by show ¬ (_ + 1 ≤ 0); omega)
      | r _ _ _ => exact absurd this (by show ¬ (_ + 1 ≤ 0); omega)
    · have := dep_len l o e
      rw [u] at this
      by_cases q : l.dep ≤ 4
      · exact q
      · have := Nat.pow_le_pow_right (n := 2) (by omega) (show 5 ≤ l.dep by omega)
        omega
  have da := dep_le la one ga.ok ga.unr (by omega)
  rw [ea]
  trivial
  rw [eqD_items la (by omega) one]
  trivial
  have ca : decide ((q1 : Int) = (one.length : Int)) = decide (la.dep = 0 ∧ la.unr = one) := by
    rw [decide_eq_decide]
    constructor
    · intro e
      have e : q1 = one.length := by omega
      exact ⟨(flat_of la ga.ok (by rw [ga.app, ga.unr, e])).1, ga.unr⟩
    · rintro ⟨e, _⟩
      have := (flat_dep la e).2
      rw [← ga.app, this, ga.unr]
  rw [ca, if_neg (by simp)]
  -- the fold of what is joined
  obtain ⟨q3, lb, eb, gb⟩ := folded_eq (one ++ other) w3 (by omega)
  have eq3 := gb.min.uniq i3
  subst eq3
  have db := dep_le lb _ gb.ok gb.unr (by omega)
  rw [eb]
  trivial
  rw [unrolled_eq lb gb.ok (by omega) (by rw [gb.unr]; omega), appearances_eq lb gb.ok (by omega) (by rw [gb.unr]; omega)]
  trivial
  rw [gb.unr, if_neg (by simp), List.length_map, gb.app, if_neg (by simp)]
  rw [shows_eq (one ++ other) w3 (by omega) lb gb.ok (by omega) gb.unr i3]
  trivial
  rw [gb.app, if_neg (by simp), show neD (tI one) (.tup []) = .ok (.bl (!decide (one = []))) from neD_tI one []]
  trivial
  have m3 : mulD (tI one) (.int 3) = .ok (tI (List.replicate 3 one).flatten) := mulD_any one 3 (by omega) (by omega) (by omega)
  have r3 := hrep 3 (by omega)
  obtain ⟨f9, e9, i9⟩ := fsize_eq _ r3.1 (by omega)
  have hlast : ∃ c : Int, L2.atI (o.map D.int) 0 = some (.int c) ∧ 0 ≤ c ∧ c ≤ 7 := ⟨g 0, hg 0 (by omega) (by omega), ho3 _ (gr 0 (by omega) (by omega))⟩
  obtain ⟨c, hc, hc0, hc7⟩ := hlast
  have m24 : mulD (.tup [.int c]) (.int 24) = .ok (tI (List.replicate 24 [c]).flatten) := mulD_any [c] 24 (by omega) (by omega) (by show 1 ≤ 1000; omega)
  obtain ⟨fc, ec, ic⟩ := fsize_eq (List.replicate 24 [c]).flatten (fun x hx => by
    obtain ⟨u, hu, hx⟩ := List.mem_flatten.mp hx
    rw [(List.mem_replicate.mp hu).2] at hx
    have hx := List.mem_singleton.mp hx
    subst hx; exact ⟨hc0, hc7⟩) (by rw [rep_len]; show 24 * 1 ≤ 24; omega)
  have cc := f_same ic
  subst cc
  by_cases e : one = []
  · rw [if_neg (by simp [e])]
    rw [depth_eq lb gb.ok (by omega) (by rw [gb.unr]; omega)]
    trivial
    rw [eqD_items lb (by omega)]
    trivial
    rw [gb.unr, if_pos (by by_cases q : lb.dep = 0 <;> simp [q] <;> omega), ixD_l hc]
    trivial
    rw [m24]
    trivial
    rw [ec]
    trivial
    rfl
  · rw [if_pos (by simp [e]), m3]
    trivial
    have sh : lk 2 m_shows_fold [tI (List.replicate 3 one).flatten, .tup [.tup [.int 3, .tup la.items]]] = .ok (.bl (decide (q1 = f9))) := by
      have := shows_eq _ r3.1 (by omega) (.r 3 la .nil) ⟨by omega, by omega, by rw [ga.unr]; exact e, ga.ok, trivial⟩ (by show max (1 + la.dep) 0 ≤ 8; omega) (by show (List.replicate 3 la.unr).flatten ++ [] = _; rw [ga.unr, List.append_nil]) i9
      rw [show (Lp.r 3 la .nil).app.length = q1 by show (la.app ++ []).length = q1; rw [List.append_nil]; exact ga.app] at this
      exact this
    rw [sh, e9]
    trivial
    rw [if_neg (by by_cases q : q1 = f9 <;> simp [q] <;> omega)]
    rw [depth_eq lb gb.ok (by omega) (by rw [gb.unr]; omega)]
    trivial
    rw [eqD_items lb (by omega)]
    trivial
    rw [gb.unr, if_pos (by by_cases q : lb.dep = 0 <;> simp [q] <;> omega), ixD_l hc]
    trivial
    rw [m24]
    trivial
    rw [ec]
    trivial
    rfl
theorem law_pure : ∀ (ns : List Int) (row script : Addr), ns.length ≤ 63 → ∃ z, Eff.run (body_law ns row (.sh (.ref script) :: .sh (.ref row) :: List.replicate 8 .no)) ⟨0, 9876, 0⟩ = .ok (.rt (.bl true)) z := fun ns row script _ => by
  obtain ⟨r, z, e, q⟩ := law_W ns row script ⟨0, 9876, 0⟩
  subst q
  exact ⟨z, e⟩

theorem top_mk {h : Heap} (X : K.In h) (G : h.Ns mainGlobals mg)
    (z_bool : PySem.W.nsIn K mainGlobals "bool" = some none)
    (z_int : PySem.W.nsIn K mainGlobals "int" = some none)
    (z_isinstance : PySem.W.nsIn K mainGlobals "isinstance" = some none)
    (z_len : PySem.W.nsIn K mainGlobals "len" = some none)
    (z_list : PySem.W.nsIn K mainGlobals "list" = some none)
    (z_max : PySem.W.nsIn K mainGlobals "max" = some none)
    (z_range : PySem.W.nsIn K mainGlobals "range" = some none)
    (z_set : PySem.W.nsIn K mainGlobals "set" = some none)
    (z_tuple : PySem.W.nsIn K mainGlobals "tuple" = some none)
    (c_MOST_BOXES : ConK K "MOST_BOXES" 8)
    (c_MOST_TIMES : ConK K "MOST_TIMES" 999)
    (c_MOST_DEEP : ConK K "MOST_DEEP" 8)
    (c_MOST_LONG : ConK K "MOST_LONG" 2000)
    (c_MOST_FOLDED : ConK K "MOST_FOLDED" 24)
    (d_is_in : InK K "is_in" s_is_in)
    (d_size_of : InK K "size_of" s_size_of)
    (d_need_loop : InK K "need_loop" s_need_loop)
    (d_unrolled_in : InK K "unrolled_in" s_unrolled_in)
    (d_unrolled : InK K "unrolled" s_unrolled)
    (d_appear_in : InK K "appear_in" s_appear_in)
    (d_appearances : InK K "appearances" s_appearances)
    (d_deep_in : InK K "deep_in" s_deep_in)
    (d_depth : InK K "depth" s_depth)
    (d_folds_of : InK K "folds_of" s_folds_of)
    (d_best_fold : InK K "best_fold" s_best_fold)
    (d_need_short : InK K "need_short" s_need_short)
    (d_folded : InK K "folded" s_folded)
    (d_fold_size : InK K "fold_size" s_fold_size)
    (d_shows_fold : InK K "shows_fold" s_shows_fold)
    (d__law_unrolled : InK K "_law_unrolled" s__law_unrolled)
    (d__law_taken : InK K "_law_taken" s__law_taken)
    (d__law_loop : InK K "_law_loop" s__law_loop)
    (d__law_order : InK K "_law_order" s__law_order)
    (d_law : InK K "law" s_law) : Top K mg := ⟨
    no_mk X G z_bool,
    no_mk X G z_int,
    no_mk X G z_isinstance,
    no_mk X G z_len,
    no_mk X G z_list,
    no_mk X G z_max,
    no_mk X G z_range,
    no_mk X G z_set,
    no_mk X G z_tuple,
    con_mk X G c_MOST_BOXES,
    con_mk X G c_MOST_TIMES,
    con_mk X G c_MOST_DEEP,
    con_mk X G c_MOST_LONG,
    con_mk X G c_MOST_FOLDED,
    stands_mk X G d_is_in fun _ _ _ _ _ _ us hl => match us, hl with | [_, _, _], _ => rfl,
    stands_mk X G d_size_of fun _ _ _ _ _ _ us hl => match us, hl with | [_, _], _ => rfl,
    stands_mk X G d_need_loop fun _ _ _ _ _ _ us hl => match us, hl with | [_], _ => rfl,
    stands_mk X G d_unrolled_in fun _ _ _ _ _ _ us hl => match us, hl with | [_], _ => rfl,
    stands_mk X G d_unrolled fun _ _ _ _ _ _ us hl => match us, hl with | [_], _ => rfl,
    stands_mk X G d_appear_in fun _ _ _ _ _ _ us hl => match us, hl with | [_], _ => rfl,
    stands_mk X G d_appearances fun _ _ _ _ _ _ us hl => match us, hl with | [_], _ => rfl,
    stands_mk X G d_deep_in fun _ _ _ _ _ _ us hl => match us, hl with | [_], _ => rfl,
    stands_mk X G d_depth fun _ _ _ _ _ _ us hl => match us, hl with | [_], _ => rfl,
    stands_mk X G d_folds_of fun _ _ _ _ _ _ us hl => match us, hl with | [_], _ => rfl,
    stands_mk X G d_best_fold fun _ _ _ _ _ _ us hl => match us, hl with | [_, _, _, _], _ => rfl,
    stands_mk X G d_need_short fun _ _ _ _ _ _ us hl => match us, hl with | [_], _ => rfl,
    stands_mk X G d_folded fun _ _ _ _ _ _ us hl => match us, hl with | [_], _ => rfl,
    stands_mk X G d_fold_size fun _ _ _ _ _ _ us hl => match us, hl with | [_], _ => rfl,
    stands_mk X G d_shows_fold fun _ _ _ _ _ _ us hl => match us, hl with | [_, _], _ => rfl,
    stands_mk X G d__law_unrolled fun _ _ _ _ _ _ us hl => match us, hl with | [_], _ => rfl,
    stands_mk X G d__law_taken fun _ _ _ _ _ _ us hl => match us, hl with | [_, _], _ => rfl,
    stands_mk X G d__law_loop fun _ _ _ _ _ _ us hl => match us, hl with | [_, _, _], _ => rfl,
    stands_mk X G d__law_order fun _ _ _ _ _ _ us hl => match us, hl with | [_, _], _ => rfl,
    stands_mk X G d_law fun _ _ _ _ _ _ us hl => match us, hl with | [_], _ => rfl⟩
theorem all_mk {l : PySem.W.OpenLaw} {w : World} {K : PySem.W.Frag} {h : Heap} {mg : Str → Option Value} {fa : Addr} (X : K.In h) (G : h.Ns mainGlobals mg) (hfa : mg "law" = some (.ref fa))
    (z_bool : PySem.W.nsIn K mainGlobals "bool" = some none)
    (z_int : PySem.W.nsIn K mainGlobals "int" = some none)
    (z_isinstance : PySem.W.nsIn K mainGlobals "isinstance" = some none)
    (z_len : PySem.W.nsIn K mainGlobals "len" = some none)
    (z_list : PySem.W.nsIn K mainGlobals "list" = some none)
    (z_max : PySem.W.nsIn K mainGlobals "max" = some none)
    (z_range : PySem.W.nsIn K mainGlobals "range" = some none)
    (z_set : PySem.W.nsIn K mainGlobals "set" = some none)
    (z_tuple : PySem.W.nsIn K mainGlobals "tuple" = some none)
    (c_MOST_BOXES : ConK K "MOST_BOXES" 8)
    (c_MOST_TIMES : ConK K "MOST_TIMES" 999)
    (c_MOST_DEEP : ConK K "MOST_DEEP" 8)
    (c_MOST_LONG : ConK K "MOST_LONG" 2000)
    (c_MOST_FOLDED : ConK K "MOST_FOLDED" 24)
    (d_is_in : InK K "is_in" s_is_in)
    (d_size_of : InK K "size_of" s_size_of)
    (d_need_loop : InK K "need_loop" s_need_loop)
    (d_unrolled_in : InK K "unrolled_in" s_unrolled_in)
    (d_unrolled : InK K "unrolled" s_unrolled)
    (d_appear_in : InK K "appear_in" s_appear_in)
    (d_appearances : InK K "appearances" s_appearances)
    (d_deep_in : InK K "deep_in" s_deep_in)
    (d_depth : InK K "depth" s_depth)
    (d_folds_of : InK K "folds_of" s_folds_of)
    (d_best_fold : InK K "best_fold" s_best_fold)
    (d_need_short : InK K "need_short" s_need_short)
    (d_folded : InK K "folded" s_folded)
    (d_fold_size : InK K "fold_size" s_fold_size)
    (d_shows_fold : InK K "shows_fold" s_shows_fold)
    (d__law_unrolled : InK K "_law_unrolled" s__law_unrolled)
    (d__law_taken : InK K "_law_taken" s__law_taken)
    (d__law_loop : InK K "_law_loop" s__law_loop)
    (d__law_order : InK K "_law_order" s__law_order)
    (d_law : InK K "law" s_law) :
    ∃ fd : FuncData, (∀ (s : Shared) (u : Value), BindsTo s fd ⟨[u], []⟩ [("_law_script", u)]) ∧ ∀ base : Heap, K.In base → base.Ns mainGlobals mg → FnOk l.prog w K mg base (L2.CX l.prog w) 16 fa fd ["_law_script"] (spLaw K) :=
  law_mk X G d_law hfa (fun _ _ _ _ _ _ s u => .of_eq rfl) fun fd base F => ok_law (top_mk X G z_bool z_int z_isinstance z_len z_list z_max z_range z_set z_tuple c_MOST_BOXES c_MOST_TIMES c_MOST_DEEP c_MOST_LONG c_MOST_FOLDED d_is_in d_size_of d_need_loop d_unrolled_in d_unrolled d_appear_in d_appearances d_deep_in d_depth d_folds_of d_best_fold d_need_short d_folded d_fold_size d_shows_fold d__law_unrolled d__law_taken d__law_loop d__law_order d_law) F law_pure
end
end Lw
open PySem PySem.W PyProof.Rows
set_option maxRecDepth 100000 in
set_option maxHeartbeats 0 in
theorem PySem.Challenge.cw_rateflows_k76_across_folds_holds : PySem.Challenge.rw_rateflows_k76_across_folds.Holds := by
  w_on; o_law; k_head; (case hw => w_witness2); k_fill
  refine Vf.walk_mk (k := 16) (l := PySem.Challenge.rw_rateflows_k76_across_folds) rfl rfl ⟨rfl, by decide, by decide⟩ (fun w h Y => PySem.W.kIn_of Y) ?F
  case F =>
    intro w mg fa h KX G hmg
    refine' Lw.all_mk KX G hmg ?z_bool ?z_int ?z_isinstance ?z_len ?z_list ?z_max ?z_range ?z_set ?z_tuple ?c_MOST_BOXES ?c_MOST_TIMES ?c_MOST_DEEP ?c_MOST_LONG ?c_MOST_FOLDED ?d_is_in ?d_size_of ?d_need_loop ?d_unrolled_in ?d_unrolled ?d_appear_in ?d_appearances ?d_deep_in ?d_depth ?d_folds_of ?d_best_fold ?d_need_short ?d_folded ?d_fold_size ?d_shows_fold ?d__law_unrolled ?d__law_taken ?d__law_loop ?d__law_order ?d_law
    (case z_bool => k_is)
    (case z_int => k_is)
    (case z_isinstance => k_is)
    (case z_len => k_is)
    (case z_list => k_is)
    (case z_max => k_is)
    (case z_range => k_is)
    (case z_set => k_is)
    (case z_tuple => k_is)
    (case c_MOST_BOXES => refine' Vf.con_in ?a; (case a => k_is))
    (case c_MOST_TIMES => refine' Vf.con_in ?a; (case a => k_is))
    (case c_MOST_DEEP => refine' Vf.con_in ?a; (case a => k_is))
    (case c_MOST_LONG => refine' Vf.con_in ?a; (case a => k_is))
    (case c_MOST_FOLDED => refine' Vf.con_in ?a; (case a => k_is))
    (case d_is_in => refine' Vf.in_k ?a ?l ?c ?k; (case a => k_is); (case l => k_is); (case c => k_is); (case k => k_is))
    (case d_size_of => refine' Vf.in_k ?a ?l ?c ?k; (case a => k_is); (case l => k_is); (case c => k_is); (case k => k_is))
    (case d_need_loop => refine' Vf.in_k ?a ?l ?c ?k; (case a => k_is); (case l => k_is); (case c => k_is); (case k => k_is))
    (case d_unrolled_in => refine' Vf.in_k ?a ?l ?c ?k; (case a => k_is); (case l => k_is); (case c => k_is); (case k => k_is))
    (case d_unrolled => refine' Vf.in_k ?a ?l ?c ?k; (case a => k_is); (case l => k_is); (case c => k_is); (case k => k_is))
    (case d_appear_in => refine' Vf.in_k ?a ?l ?c ?k; (case a => k_is); (case l => k_is); (case c => k_is); (case k => k_is))
    (case d_appearances => refine' Vf.in_k ?a ?l ?c ?k; (case a => k_is); (case l => k_is); (case c => k_is); (case k => k_is))
    (case d_deep_in => refine' Vf.in_k ?a ?l ?c ?k; (case a => k_is); (case l => k_is); (case c => k_is); (case k => k_is))
    (case d_depth => refine' Vf.in_k ?a ?l ?c ?k; (case a => k_is); (case l => k_is); (case c => k_is); (case k => k_is))
    (case d_folds_of => refine' Vf.in_k ?a ?l ?c ?k; (case a => k_is); (case l => k_is); (case c => k_is); (case k => k_is))
    (case d_best_fold => refine' Vf.in_k ?a ?l ?c ?k; (case a => k_is); (case l => k_is); (case c => k_is); (case k => k_is))
    (case d_need_short => refine' Vf.in_k ?a ?l ?c ?k; (case a => k_is); (case l => k_is); (case c => k_is); (case k => k_is))
    (case d_folded => refine' Vf.in_k ?a ?l ?c ?k; (case a => k_is); (case l => k_is); (case c => k_is); (case k => k_is))
    (case d_fold_size => refine' Vf.in_k ?a ?l ?c ?k; (case a => k_is); (case l => k_is); (case c => k_is); (case k => k_is))
    (case d_shows_fold => refine' Vf.in_k ?a ?l ?c ?k; (case a => k_is); (case l => k_is); (case c => k_is); (case k => k_is))
    (case d__law_unrolled => refine' Vf.in_k ?a ?l ?c ?k; (case a => k_is); (case l => k_is); (case c => k_is); (case k => k_is))
    (case d__law_taken => refine' Vf.in_k ?a ?l ?c ?k; (case a => k_is); (case l => k_is); (case c => k_is); (case k => k_is))
    (case d__law_loop => refine' Vf.in_k ?a ?l ?c ?k; (case a => k_is); (case l => k_is); (case c => k_is); (case k => k_is))
    (case d__law_order => refine' Vf.in_k ?a ?l ?c ?k; (case a => k_is); (case l => k_is); (case c => k_is); (case k => k_is))
    (case d_law => refine' Vf.in_k ?a ?l ?c ?k; (case a => k_is); (case l => k_is); (case c => k_is); (case k => k_is))
#print axioms PySem.Challenge.cw_rateflows_k76_across_folds_holds
