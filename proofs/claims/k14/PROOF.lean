import PyProof.Rows.All
import Wide.All
import OpenK.AllK
import Wide.FinOn
import KE.KStateDown
import HandS.ForMost
import HandS.ForExc
import HandS.Wide
import HandS.Gcd
import HandS.Property
import HandS.IsInst
import HandS.Defaults
import HandS.MakeKw
import HandS.MakeKwOnly
import HandS.OwnEq
import HandS.RevRange
import HandS.EndBits
import HandS.HeadHook4
import HandS.SlotsOwn
import OpenK.KMeth
import KE.KOpsOwn
import HandS.ExcOwn
import HandS.ExcIs
import HandS.TryOnly
import PyProof.ExcBaseAll.ValueError
import HandS.Iter
import HandS.Rev
import HandS.Zip
import KE.GoesMore
import KE.KMathGC
import HandS.List
import HandS.Deep
import HandS.ClsMeth
import KE.DataMinMax
import HandS.Head0
import HandS.Head1
import HandS.Head2
import HandS.Head3
import HandS.HeadEnd
import PySem.Challenge.RW_certsums_k14_roots_from
set_option Elab.async false
set_option linter.all false
set_option maxRecDepth 100000
set_option maxHeartbeats 2000000
/-! PdA: values as plain data, their places in the heap, the readings by plain functions. -/
namespace Pd
open PySem PySem.Spec L2

/-- plain data -/
inductive Dt where
  | non | bl (b : Bool) | int (i : Int) | str (x : Str) | ty (n : String)
  | tup (xs : List Dt) | lst (xs : List Dt) | ins (c : Nat) (xs : List Dt)
/-- the classes: their addresses, their fields in the order of __init__ -/
structure Tab where
  ca : Nat → Addr
  fl : Nat → List Str

mutual
def Rep (K : PySem.W.Frag) (T : Tab) (Z : Hp) : Dt → V → Prop
  | .non, v => v = .non
  | .bl b, v => v = .bl b
  | .int i, v => v = .int i
  | .str x, v => v = .str x
  | .ty n, v => v = .ty n
  | .tup ds, v => ∃ p vs, v = .ref p ∧ SqT K Z p vs ∧ Reps K T Z ds vs
  | .lst ds, v => ∃ p vs, v = .ref p ∧ SqL K Z p vs ∧ Reps K T Z ds vs
  | .ins c ds, v => ∃ p dx vs, v = .ref p ∧ Z p = some (.ins (T.ca c) dx ((T.fl c).zip vs)) ∧ vs.length = (T.fl c).length ∧ Reps K T Z ds vs
def Reps (K : PySem.W.Frag) (T : Tab) (Z : Hp) : List Dt → List V → Prop
  | [], vs => vs = []
  | d :: ds, vs => ∃ v r, vs = v :: r ∧ Rep K T Z d v ∧ Reps K T Z ds r
end

def Le (H H' : Hp) : Prop := ∀ a o, H a = some o → H' a = some o
theorem Le.refl (H : Hp) : Le H H := fun _ _ h => h
theorem Le.trans {H H1 H2 : Hp} (a : Le H H1) (b : Le H1 H2) : Le H H2 := fun c o h => b c o (a c o h)
theorem Le.free {H H' : Hp} (e : Le H H') {l : Addr} (h : H' l = none) : H l = none := by
  cases q : H l with
  | none => rfl
  | some o => rw [e l o q] at h; cases h
theorem Le.ne {H H' : Hp} (e : Le H H') {l : Addr} (h : H l ≠ none) : H' l ≠ none := fun z => h (e.free z)
theorem Le.seqL {K : PySem.W.Frag} {H H' : Hp} {a : Addr} {xs : List V} (e : Le H H') (h : SqL K H a xs) : SqL K H' a xs := by
  rcases h with (h | ⟨o, h⟩) | h
  · exact .inl (.inl (e _ _ h))
  · exact .inl (.inr ⟨o, e _ _ h⟩)
  · exact .inr h
theorem Le.seqT {K : PySem.W.Frag} {H H' : Hp} {a : Addr} {xs : List V} (e : Le H H') (h : SqT K H a xs) : SqT K H' a xs := by
  rcases h with (h | ⟨o, h⟩) | h
  · exact .inl (.inl (e _ _ h))
  · exact .inl (.inr ⟨o, e _ _ h⟩)
  · exact .inr h
theorem Le.upd {H : Hp} {p : Addr} {o : HO} (h : H p = none) : Le H (upd H p o) := fun a u e => by rw [upd_ne (ne_of_none e h)]; exact e

section
variable {K : PySem.W.Frag} {T : Tab} {Z Z' : Hp}
mutual
theorem Rep.mono (e : Le Z Z') : ∀ {d : Dt} {v : V}, Rep K T Z d v → Rep K T Z' d v
  | .non, _, h => h
  | .bl _, _, h => h
  | .int _, _, h => h
  | .str _, _, h => h
  | .ty _, _, h => h
  | .tup _, _, h => by
    simp only [Rep] at h ⊢
    obtain ⟨p, vs, h1, h2, h3⟩ := h
    exact ⟨p, vs, h1, e.seqT h2, Reps.mono e h3⟩
  | .lst _, _, h => by
    simp only [Rep] at h ⊢
    obtain ⟨p, vs, h1, h2, h3⟩ := h
    exact ⟨p, vs, h1, e.seqL h2, Reps.mono e h3⟩
  | .ins _ _, _, h => by
    simp only [Rep] at h ⊢
    obtain ⟨p, dx, vs, h1, h2, h3, h4⟩ := h
    exact ⟨p, dx, vs, h1, e _ _ h2, h3, Reps.mono e h4⟩
theorem Reps.mono (e : Le Z Z') : ∀ {ds : List Dt} {vs : List V}, Reps K T Z ds vs → Reps K T Z' ds vs
  | [], _, h => h
  | _ :: _, _, h => by
    simp only [Reps] at h ⊢
    obtain ⟨v, r, h1, h2, h3⟩ := h
    exact ⟨v, r, h1, Rep.mono e h2, Reps.mono e h3⟩
end
theorem Reps.nil : Reps K T Z [] [] := by simp only [Reps]
theorem Reps.cons {d : Dt} {v : V} {ds : List Dt} {vs : List V} (h : Rep K T Z d v) (t : Reps K T Z ds vs) : Reps K T Z (d :: ds) (v :: vs) := by
  simp only [Reps]; exact ⟨v, vs, rfl, h, t⟩
theorem Reps.nil_inv {vs : List V} (h : Reps K T Z [] vs) : vs = [] := by simpa only [Reps] using h
theorem Reps.cons_inv {d : Dt} {ds : List Dt} {vs : List V} (h : Reps K T Z (d :: ds) vs) : ∃ v r, vs = v :: r ∧ Rep K T Z d v ∧ Reps K T Z ds r := by simpa only [Reps] using h
theorem Reps.length : ∀ {ds : List Dt} {vs : List V}, Reps K T Z ds vs → vs.length = ds.length
  | [], _, h => by rw [h.nil_inv]; rfl
  | _ :: _, _, h => by
    obtain ⟨v, r, rfl, _, t⟩ := h.cons_inv
    rw [List.length_cons, List.length_cons, t.length]
theorem Reps.append : ∀ {ds es : List Dt} {vs ws : List V}, Reps K T Z ds vs → Reps K T Z es ws → Reps K T Z (ds ++ es) (vs ++ ws)
  | [], _, _, _, h, t => by rw [h.nil_inv]; exact t
  | _ :: _, _, _, _, h, t => by
    obtain ⟨v, r, rfl, a, b⟩ := h.cons_inv
    exact .cons a (b.append t)
theorem Reps.get : ∀ {ds : List Dt} {vs : List V} {i : Nat} {d : Dt}, Reps K T Z ds vs → ds[i]? = some d → ∃ v, vs[i]? = some v ∧ Rep K T Z d v
  | [], _, _, _, _, e => by simp at e
  | _ :: _, _, 0, _, h, e => by
    obtain ⟨v, r, rfl, a, b⟩ := h.cons_inv
    simp at e; subst e
    exact ⟨v, rfl, a⟩
  | _ :: _, _, i + 1, _, h, e => by
    obtain ⟨v, r, rfl, a, b⟩ := h.cons_inv
    obtain ⟨x, h1, h2⟩ := b.get (i := i) (by simpa using e)
    exact ⟨x, by simpa using h1, h2⟩
theorem Reps.getv {ds : List Dt} {vs : List V} {i : Nat} {v : V} (h : Reps K T Z ds vs) (e : vs[i]? = some v) : ∃ d, ds[i]? = some d ∧ Rep K T Z d v := by
  have hl := h.length
  have hi := (List.getElem?_eq_some_iff.mp e).1
  obtain ⟨x, h1, h2⟩ := h.get (i := i) (d := ds[i]'(by omega)) (by simp)
  rw [e] at h1; cases h1
  exact ⟨_, by simp, h2⟩
theorem Reps.set : ∀ {ds : List Dt} {vs : List V} {d : Dt} {v : V} (i : Nat), Reps K T Z ds vs → Rep K T Z d v → Reps K T Z (ds.set i d) (vs.set i v)
  | [], _, _, _, _, h, _ => by rw [h.nil_inv]; exact .nil
  | _ :: _, _, _, _, 0, h, t => by
    obtain ⟨v, r, rfl, a, b⟩ := h.cons_inv
    exact .cons t b
  | _ :: _, _, _, _, i + 1, h, t => by
    obtain ⟨v, r, rfl, a, b⟩ := h.cons_inv
    exact .cons a (b.set i t)
theorem Reps.take : ∀ {ds : List Dt} {vs : List V} (n : Nat), Reps K T Z ds vs → Reps K T Z (ds.take n) (vs.take n)
  | _, _, 0, _ => by simp only [List.take_zero]; exact .nil
  | [], _, _ + 1, h => by rw [h.nil_inv]; exact .nil
  | _ :: _, _, n + 1, h => by
    obtain ⟨v, r, rfl, a, b⟩ := h.cons_inv
    exact .cons a (b.take n)
theorem Reps.drop : ∀ {ds : List Dt} {vs : List V} (n : Nat), Reps K T Z ds vs → Reps K T Z (ds.drop n) (vs.drop n)
  | _, _, 0, h => h
  | [], _, _ + 1, h => by rw [h.nil_inv]; exact .nil
  | _ :: _, _, n + 1, h => by
    obtain ⟨v, r, rfl, a, b⟩ := h.cons_inv
    exact b.drop n
theorem Reps.dropLast {ds : List Dt} {vs : List V} (h : Reps K T Z ds vs) : Reps K T Z ds.dropLast vs.dropLast := by
  rw [List.dropLast_eq_take, List.dropLast_eq_take, h.length]; exact h.take _
theorem Reps.repl {d : Dt} {v : V} (h : Rep K T Z d v) : ∀ n : Nat, Reps K T Z (List.replicate n d) (List.replicate n v)
  | 0 => .nil
  | n + 1 => by rw [List.replicate_succ, List.replicate_succ]; exact .cons h (Reps.repl h n)
theorem Reps.rep {ds : List Dt} {vs : List V} (h : Reps K T Z ds vs) : ∀ n : Nat, Reps K T Z (List.replicate n ds).flatten (List.replicate n vs).flatten
  | 0 => by simp; exact .nil
  | n + 1 => by rw [List.replicate_succ, List.replicate_succ, List.flatten_cons, List.flatten_cons]; exact h.append (Reps.rep h n)
theorem Reps.ints : ∀ {ns : List Int} , Reps K T Z (ns.map Dt.int) (ns.map V.int)
  | [] => .nil
  | n :: ns => .cons (by simp only [Rep]) Reps.ints
end

/-! ### how a state grows while an expression runs -/
structure Ext4 (Z H Z' H' : Hp) : Prop where
  hh : Le H H'
  zz : Le Z Z'
  zh : Le Z' H'
  st : ∀ a, H a ≠ none → Z' a = Z a
theorem Ext4.refl {Z H : Hp} (h : Le Z H) : Ext4 Z H Z H := ⟨Le.refl _, Le.refl _, h, fun _ _ => rfl⟩
theorem Ext4.trans {Z H Z1 H1 Z2 H2 : Hp} (a : Ext4 Z H Z1 H1) (b : Ext4 Z1 H1 Z2 H2) : Ext4 Z H Z2 H2 :=
  ⟨a.hh.trans b.hh, a.zz.trans b.zz, b.zh, fun c h => (b.st c (a.hh.ne h)).trans (a.st c h)⟩
/-- a new object comes, not frozen -/
theorem Ext4.new {Z H : Hp} {p : Addr} {o : HO} (h : Le Z H) (n : H p = none) : Ext4 Z H Z (upd H p o) :=
  ⟨Le.upd n, Le.refl _, h.trans (Le.upd n), fun _ _ => rfl⟩
/-- a new object comes, frozen -/
theorem Ext4.newZ {Z H : Hp} {p : Addr} {o : HO} (h : Le Z H) (n : H p = none) : Ext4 Z H (upd Z p o) (upd H p o) := by
  have nz := h.free n
  refine ⟨Le.upd n, Le.upd nz, fun a u e => ?_, fun a e => ?_⟩
  · by_cases q : a = p
    · subst q; rw [upd_same] at e ⊢; exact e
    · rw [upd_ne q] at e ⊢; exact h _ _ e
  · by_cases q : a = p
    · subst q; exact absurd n e
    · rw [upd_ne q]
/-- what stands is frozen, where it is younger than the start -/
theorem Ext4.freeze {Z H Z1 H1 : Hp} {p : Addr} {o : HO} (a : Ext4 Z H Z1 H1) (n : H p = none) (z : Z1 p = none) (h : H1 p = some o) : Ext4 Z H (upd Z1 p o) H1 := by
  refine ⟨a.hh, a.zz.trans (Le.upd z), fun b u e => ?_, fun b e => ?_⟩
  · by_cases q : b = p
    · subst q; rw [upd_same] at e; cases e; exact h
    · rw [upd_ne q] at e; exact a.zh _ _ e
  · have q : b ≠ p := fun q => e (q ▸ n)
    rw [upd_ne q]; exact a.st b e

/-! ### results -/
inductive Rs where
  | fro (d : Dt) | own (ds : List Dt) | bor (ds : List Dt)
inductive Ex (α : Type) where
  | ok (a : α) | ex (c : Nat) (ds : List Dt)
abbrev M (α : Type) := Option (Ex α)
def bnd {α β : Type} (m : M α) (k : α → M β) : M β :=
  match m with
  | none => none
  | some (.ok a) => k a
  | some (.ex c ds) => some (.ex c ds)
@[simp] theorem bnd_ok {α β : Type} (a : α) (k : α → M β) : bnd (some (.ok a)) k = k a := rfl
@[simp] theorem bnd_ex {α β : Type} (c : Nat) (ds : List Dt) (k : α → M β) : bnd (some (.ex c ds)) k = some (.ex c ds) := rfl
@[simp] theorem bnd_none {α β : Type} (k : α → M β) : bnd (none : M α) k = none := rfl
theorem bnd_cases {α β : Type} {m : M α} {k : α → M β} {out : Ex β} (h : bnd m k = some out) : (∃ c ds, m = some (.ex c ds) ∧ out = .ex c ds) ∨ (∃ r, m = some (.ok r) ∧ k r = some out) := by
  cases m with
  | none => cases h
  | some x =>
    cases x with
    | ok a => exact .inr ⟨a, rfl, h⟩
    | ex c ds => cases h; exact .inl ⟨c, ds, rfl, rfl⟩

/-- a place of the frame: a frozen value, a list of one's own, an instance that is being made -/
inductive Cel where
  | fro (d : Dt) | own (ds : List Dt) | mk (c : Nat) (ds : List Dt)
abbrev PEnv := List (Option Cel)
abbrev FE := PEnv → M Rs

def isOwnC : Option (Option Cel) → Prop
  | some (some (.own _)) => True
  | some (some (.mk _ _)) => True
  | _ => False

abbrev Hx := Hp × Addr
section
variable (K : PySem.W.Frag) (T : Tab)
def RRep (B Z H : Hp) (v : V) : Rs → Prop
  | .fro d => Rep K T Z d v
  | .own ds => ∃ p vs, v = .ref p ∧ B p = none ∧ H p = some (.lst vs) ∧ Z p = none ∧ Reps K T Z ds vs
  | .bor ds => ∃ p vs, v = .ref p ∧ H p = some (.lst vs) ∧ Reps K T Z ds vs
def CRep (B Z H : Hp) (v : V) : Cel → Prop
  | .fro d => Rep K T Z d v
  | .own ds => ∃ p vs, v = .ref p ∧ B p = none ∧ H p = some (.lst vs) ∧ Z p = none ∧ Reps K T Z ds vs
  | .mk c ds => ∃ p dx vs, v = .ref p ∧ B p = none ∧ H p = some (.ins (T.ca c) dx ((T.fl c).zip vs)) ∧ Z p = none ∧ Reps K T Z ds vs
/-- an exception that flies -/
def XRep (Z H : Hp) (cls : Value) (d : Option Addr) (c : Nat) (ds : List Dt) : Prop :=
  cls = .ref (T.ca c) ∧ ((ds = [] ∧ d = none) ∨ ∃ x dd f v, ds = [x] ∧ d = some dd ∧ T.fl c = [f] ∧ H dd = some (.xd [(f, v)]) ∧ Rep K T Z x v)
/-- a frame's state: H0, Z0.1 at its entry; Z0.2: the instance that is being made -/
structure SI (H0 : Hp) (Z0 : Hx) (env : PEnv) (σ : St) (Z H : Hp) : Prop where
  ext : Ext4 Z0.1 H0 Z H
  len : env.length = σ.length
  cell : ∀ (i : Nat) c, env[i]? = some (some c) → ∃ v, σ[i]? = some (some v) ∧ CRep K T H0 Z H v c
  sep : ∀ (i j : Nat) v, i ≠ j → isOwnC env[i]? → isOwnC env[j]? → σ[i]? = some (some v) → σ[j]? = some (some v) → False
  me : ∀ (i : Nat) c ds v, env[i]? = some (some (.mk c ds)) → σ[i]? = some (some v) → v = .ref Z0.2
end

section
variable {K : PySem.W.Frag} {T : Tab} {B Z H Z' H' Z1 H1 H0 : Hp} {Z0 : Hx} {v : V} {σ : St} {env : PEnv}
theorem RRep.step {r : Rs} (h : RRep K T B Z1 H1 v r) (e : Ext4 Z1 H1 Z' H') : RRep K T B Z' H' v r := by
  cases r with
  | fro d => exact Rep.mono e.zz h
  | own ds =>
    obtain ⟨p, vs, rfl, b, hp, zp, rs⟩ := h
    exact ⟨p, vs, rfl, b, e.hh _ _ hp, by rw [e.st p (by rw [hp]; simp)]; exact zp, rs.mono e.zz⟩
  | bor ds =>
    obtain ⟨p, vs, rfl, hp, rs⟩ := h
    exact ⟨p, vs, rfl, e.hh _ _ hp, rs.mono e.zz⟩
theorem RRep.base {B' : Hp} {r : Rs} (h : RRep K T B Z1 H1 v r) (e : Le B' B) : RRep K T B' Z1 H1 v r := by
  cases r with
  | fro d => exact h
  | own ds =>
    obtain ⟨p, vs, rfl, b, hp, zp, rs⟩ := h
    exact ⟨p, vs, rfl, e.free b, hp, zp, rs⟩
  | bor ds => exact h
theorem CRep.step {r : Cel} (h : CRep K T B Z1 H1 v r) (e : Ext4 Z1 H1 Z' H') : CRep K T B Z' H' v r := by
  cases r with
  | fro d => exact Rep.mono e.zz h
  | own ds =>
    obtain ⟨p, vs, rfl, b, hp, zp, rs⟩ := h
    exact ⟨p, vs, rfl, b, e.hh _ _ hp, by rw [e.st p (by rw [hp]; simp)]; exact zp, rs.mono e.zz⟩
  | mk c ds =>
    obtain ⟨p, dx, vs, rfl, b, hp, zp, rs⟩ := h
    exact ⟨p, dx, vs, rfl, b, e.hh _ _ hp, by rw [e.st p (by rw [hp]; simp)]; exact zp, rs.mono e.zz⟩
theorem SI.step (s : SI K T H0 Z0 env σ Z1 H1) (e : Ext4 Z1 H1 Z' H') : SI K T H0 Z0 env σ Z' H' :=
  ⟨s.ext.trans e, s.len, fun i c h => let ⟨v, h1, h2⟩ := s.cell i c h; ⟨v, h1, h2.step e⟩, s.sep, s.me⟩
theorem SI.zh (s : SI K T H0 Z0 env σ Z H) : Le Z H := s.ext.zh
end

/-- a value is taken for good: a list of one's own is frozen -/
def frz : Rs → M Dt
  | .fro d => some (.ok d)
  | .own ds => some (.ok (.lst ds))
  | .bor _ => none
@[simp] theorem frz_fro (d : Dt) : frz (.fro d) = some (.ok d) := rfl
@[simp] theorem frz_own (d : List Dt) : frz (.own d) = some (.ok (.lst d)) := rfl
@[simp] theorem frz_bor (d : List Dt) : frz (.bor d) = none := rfl
theorem RRep.freeze {K : PySem.W.Frag} {T : Tab} {Z H Z1 H1 : Hp} {v : V} {r : Rs} {d : Dt} (h : RRep K T H Z1 H1 v r) (f : frz r = some (.ok d)) (e : Ext4 Z H Z1 H1) : ∃ Z2, Ext4 Z H Z2 H1 ∧ Le Z1 Z2 ∧ Rep K T Z2 d v := by
  cases r with
  | fro d' => cases f; exact ⟨Z1, e, Le.refl _, h⟩
  | own ds =>
    cases f
    obtain ⟨p, vs, rfl, b, hp, zp, rs⟩ := h
    refine ⟨upd Z1 p (.lst vs), e.freeze b zp hp, Le.upd zp, ?_⟩
    simp only [Rep]
    exact ⟨p, vs, rfl, .of upd_same, rs.mono (Le.upd zp)⟩
  | bor ds => cases f

/-! ### an expression's reading by a plain function -/
structure Post (K : PySem.W.Frag) (T : Tab) (Z H : Hp) (σ : St) (W : WX) (Q : VK) (out : Ex Rs) : Prop where
  ok : ∀ r, out = .ok r → ∀ v Z' H', Ext4 Z H Z' H' → RRep K T H Z' H' v r → Q v H'
  ex : ∀ c ds, out = .ex c ds → ∀ cls d Z' H', Ext4 Z H Z' H' → XRep K T Z' H' cls d c ds → W cls d σ H'
theorem Post.step {K : PySem.W.Frag} {T : Tab} {Z H Z1 H1 : Hp} {σ : St} {W : WX} {Q : VK} {out : Ex Rs} (p : Post K T Z H σ W Q out) (e : Ext4 Z H Z1 H1) : Post K T Z1 H1 σ W Q out :=
  ⟨fun r h v Z' H' e' rr => p.ok r h v Z' H' (e.trans e') (rr.base e.hh), fun c ds h cls d Z' H' e' x => p.ex c ds h cls d Z' H' (e.trans e') x⟩
/-- the reading of an expression whose value is told by f -/
def tD (K : PySem.W.Frag) (T : Tab) (W : WX) (f : FE) : TE := fun σ H Q =>
  ∃ H0 Z0 env Z out, f env = some out ∧ SI K T H0 Z0 env σ Z H ∧ Post K T Z H σ W Q out
abbrev PD (X : Cx) (T : Tab) (W : WX) (e : Expr) (f : FE) : Prop := PE X e (tD X.K T W f)
theorem PE.imp {X : Cx} {e : Expr} {t t' : TE} (h : PE X e t) (i : ∀ σ H Q, t' σ H Q → t σ H Q) : PE X e t' := ⟨fun pins s σ H Q I q => h.run pins s σ H Q I (i σ H Q q)⟩

section
variable {K : PySem.W.Frag} {T : Tab} {W : WX} {H0 Z H : Hp} {Z0 : Hx} {env : PEnv} {σ : St} {Q : VK} {out : Ex Rs}
/-- a part runs, then what follows -/
theorem tD_bnd {fa : FE} {k : Rs → M Rs} {G : VK} (h : bnd (fa env) k = some out) (s : SI K T H0 Z0 env σ Z H) (p : Post K T Z H σ W Q out)
    (go : ∀ r v Z1 H1, k r = some out → Ext4 Z H Z1 H1 → RRep K T H Z1 H1 v r → SI K T H0 Z0 env σ Z1 H1 → Post K T Z1 H1 σ W Q out → G v H1) : tD K T W fa σ H G := by
  rcases bnd_cases h with ⟨c, ds, e1, e2⟩ | ⟨r, e1, e2⟩
  · exact ⟨H0, Z0, env, Z, _, e1, s, fun r q => (nomatch q), fun c' ds' q cls d Z' H' e x => p.ex c' ds' (e2.trans q) cls d Z' H' e x⟩
  · refine ⟨H0, Z0, env, Z, _, e1, s, fun r' q v Z' H' e rr => ?_, fun c' ds' q => (nomatch q)⟩
    cases q
    exact go r v Z' H' e2 e rr (s.step e) (p.step e)
/-- the same, the value taken for good -/
theorem tD_bndF {fa : FE} {k : Dt → M Rs} {G : VK} (h : bnd (fa env) (fun r => bnd (frz r) k) = some out) (s : SI K T H0 Z0 env σ Z H) (p : Post K T Z H σ W Q out)
    (go : ∀ d v Z1 H1, k d = some out → Ext4 Z H Z1 H1 → Rep K T Z1 d v → SI K T H0 Z0 env σ Z1 H1 → Post K T Z1 H1 σ W Q out → G v H1) : tD K T W fa σ H G := by
  refine tD_bnd h s p fun r v Z1 H1 hk e rr s1 p1 => ?_
  rcases bnd_cases hk with ⟨c, ds, e1, e2⟩ | ⟨d, e1, e2⟩
  · cases r <;> cases e1
  · obtain ⟨Z2, x, _, y⟩ := rr.freeze e1 e
    exact go d v Z2 H1 e2 x y (s.step x) (p.step x)
theorem Post.fro {d : Dt} {v : V} (p : Post K T Z H σ W Q (.ok (.fro d))) (zh : Le Z H) (r : Rep K T Z d v) : Q v H := p.ok _ rfl v Z H (Ext4.refl zh) r
theorem Post.own {ds : List Dt} {vs : List V} {q : Addr} (p : Post K T Z H σ W Q (.ok (.own ds))) (zh : Le Z H) (n : H q = none) (r : Reps K T Z ds vs) : Q (.ref q) (upd H q (.lst vs)) :=
  p.ok _ rfl _ Z _ (Ext4.new zh n) ⟨q, vs, rfl, n, upd_same, zh.free n, r⟩
theorem Post.tup {ds : List Dt} {vs : List V} {q : Addr} (p : Post K T Z H σ W Q (.ok (.fro (.tup ds)))) (zh : Le Z H) (n : H q = none) (r : Reps K T Z ds vs) : Q (.ref q) (upd H q (.tup vs)) := by
  refine p.ok _ rfl _ (upd Z q (.tup vs)) _ (Ext4.newZ zh n) ?_
  show Rep K T _ (.tup ds) _
  simp only [Rep]
  exact ⟨q, vs, rfl, .of upd_same, r.mono (Le.upd (zh.free n))⟩
end

/-! ### names, constants -/
def eC (d : Dt) : FE := fun _ => some (.ok (.fro d))
def eVar (i : Nat) : FE := fun ρ => match ρ[i]? with
  | some (some (.fro d)) => some (.ok (.fro d))
  | some (some (.own ds)) => some (.ok (.bor ds))
  | _ => none
section
variable {X : Cx} {T : Tab} {W : WX} {pos : Pos}
theorem pd_var (i : Nat) {x : Str} (hN : X.N[i]? = some x := by rfl) (hv : Vis X.env.scope x := by first | exact Or.inl rfl | exact Or.inr (Or.inl rfl) | exact Or.inr (Or.inr rfl)) (hd : (x == ("__debug__" : Str)) = false := by decide)
    (hcd : (x == ("__classdict__" : Str)) = false := by decide) : PD X T W (.Name x pos) (eVar i) := by
  refine PE.imp (pe_var hN hv hd hcd) fun σ H Q ⟨H0, Z0, env, Z, out, h, s, p⟩ => ?_
  unfold eVar at h
  split at h
  · rename_i d he
    cases h
    obtain ⟨v, e1, e2⟩ := s.cell i _ he
    exact ⟨v, e1, p.fro s.zh e2⟩
  · rename_i ds he
    cases h
    obtain ⟨v, e1, q, vs, rfl, b, hp, zp, rs⟩ := s.cell i _ he
    exact ⟨_, e1, p.ok _ rfl _ Z H (Ext4.refl s.zh) ⟨q, vs, rfl, hp, rs⟩⟩
  · cases h
theorem pd_c {e : Expr} {d : Dt} {v : V} (h : PE X e (tC v)) (r : ∀ Z, Rep X.K T Z d v) : PD X T W e (eC d) := by
  refine PE.imp h fun σ H Q ⟨H0, Z0, env, Z, out, h, s, p⟩ => ?_
  cases h
  exact p.fro s.zh (r Z)
theorem pd_int {i j} : PD X T W (.Constant (.int i) j pos) (eC (.int i)) := pd_c pe_int fun _ => by simp only [Rep]
theorem pd_bl {b j} : PD X T W (.Constant (.bool b) j pos) (eC (.bl b)) := pd_c pe_bl fun _ => by simp only [Rep]
theorem pd_non {j} : PD X T W (.Constant .none j pos) (eC .non) := pd_c pe_non fun _ => by simp only [Rep]
theorem pd_str {x j} : PD X T W (.Constant (.str x) j pos) (eC (.str x)) := pd_c pe_str fun _ => by simp only [Rep]
end

/-! ### operators by values -/
abbrev G2 := Rs → Rs → M Rs
abbrev G1 := Rs → M Rs
/-- an operator's reading follows from its plain function -/
def Op2 (K : PySem.W.Frag) (T : Tab) (W : WX) (r : R2) (g : G2) : Prop := ∀ (σ : St) (B Z H : Hp) (x y : Rs) (v w : V) (out : Ex Rs) (Q : VK), Le Z H → RRep K T B Z H v x → RRep K T B Z H w y → g x y = some out → Post K T Z H σ W Q out → r v w H Q
def Op1 (K : PySem.W.Frag) (T : Tab) (W : WX) (r : V → Hp → VK → Prop) (g : G1) : Prop := ∀ (σ : St) (B Z H : Hp) (x : Rs) (v : V) (out : Ex Rs) (Q : VK), Le Z H → RRep K T B Z H v x → g x = some out → Post K T Z H σ W Q out → r v H Q
def e2 (g : G2) (fa fb : FE) : FE := fun ρ => bnd (fa ρ) fun x => bnd (fb ρ) fun y => g x y
def e1 (g : G1) (fa : FE) : FE := fun ρ => bnd (fa ρ) g
section
variable {K : PySem.W.Frag} {T : Tab} {W : WX}
theorem tOp_of {r : R2} {g : G2} {fa fb : FE} (h : Op2 K T W r g) {σ : St} {H : Hp} {Q : VK} (q : tD K T W (e2 g fa fb) σ H Q) : tOp r (tD K T W fa) (tD K T W fb) σ H Q := by
  obtain ⟨H0, Z0, env, Z, out, hf, s, p⟩ := q
  refine tD_bnd hf s p fun x v Z1 H1 hk e1 r1 s1 p1 => ?_
  refine tD_bnd hk s1 p1 fun y w Z2 H2 hk2 e2 r2 s2 p2 => ?_
  exact h σ H Z2 H2 x y v w out Q e2.zh (r1.step e2) (r2.base e1.hh) hk2 p2
theorem tUn_of {r : V → Hp → VK → Prop} {g : G1} {fa : FE} (h : Op1 K T W r g) {σ : St} {H : Hp} {Q : VK} (q : tD K T W (e1 g fa) σ H Q) : tUn r (tD K T W fa) σ H Q := by
  obtain ⟨H0, Z0, env, Z, out, hf, s, p⟩ := q
  refine tD_bnd hf s p fun x v Z1 H1 hk e1 r1 s1 p1 => ?_
  exact h σ H Z1 H1 x v out Q e1.zh r1 hk p1
variable {X : Cx} {a b : Expr} {fa fb : FE} {pos : Pos}
theorem pd_op {op : Operator} {r : R2} {g : G2} (ho : OpR X (binaryOp op) r) (h : Op2 X.K T W r g) (ha : PD X T W a fa) (hb : PD X T W b fb) : PD X T W (.BinOp a op b pos) (e2 g fa fb) :=
  PE.imp (pe_op ho ha hb) fun _ _ _ q => tOp_of h q
theorem pd_un {op : UnaryOp} {r : V → Hp → VK → Prop} {g : G1} (ho : UnR X (unaryOp op) r) (h : Op1 X.K T W r g) (ha : PD X T W a fa) : PD X T W (.UnaryOp op a pos) (e1 g fa) :=
  PE.imp (pe_un ho ha) fun _ _ _ q => tUn_of h q
theorem pd_cmp {op : CmpOp} {r : R2} {g : G2} (ho : OpR X (compareOp op) r) (h : Op2 X.K T W r g) (ha : PD X T W a fa) (hb : PD X T W b fb) (hm : behindInMarks op b = false) : PD X T W (.Compare a [op] [b] pos) (e2 g fa fb) :=
  PE.imp (pe_cmpR ho ha hb hm) fun _ _ _ q => tOp_of h q
theorem pd_ix {r : R2} {g : G2} (ho : IxR X r) (h : Op2 X.K T W r g) (ha : PD X T W a fa) (hb : PD X T W b fb) (hs : PlainIx b := by exact fun _ _ => rfl) : PD X T W (.Subscript a b pos) (e2 g fa fb) :=
  PE.imp (pe_ix ho ha hb hs) fun _ _ _ q => tOp_of h q
end
/-- a plain function of two ints -/
def gII (f : Int → Int → M Rs) : G2
  | .fro (.int i), .fro (.int j) => f i j
  | _, _ => none
@[simp] theorem gII_int (f : Int → Int → M Rs) (i j : Int) : gII f (.fro (.int i)) (.fro (.int j)) = f i j := rfl
theorem gII_inv {f : Int → Int → M Rs} {x y : Rs} {out : Ex Rs} (h : gII f x y = some out) : ∃ i j, x = .fro (.int i) ∧ y = .fro (.int j) ∧ f i j = some out := by
  unfold gII at h
  split at h
  · exact ⟨_, _, rfl, rfl, h⟩
  · cases h
abbrev vI (i : Int) : M Rs := some (.ok (.fro (.int i)))
abbrev vB (b : Bool) : M Rs := some (.ok (.fro (.bl b)))
section
variable {K : PySem.W.Frag} {T : Tab} {W : WX}
theorem o2_I0 {f : Int → Int → Int} : Op2 K T W (rI0 fun i j => .int (f i j)) (gII fun i j => vI (f i j)) := fun σ B Z H x y v w out Q zh r1 r2 hg p => by
  obtain ⟨i, j, rfl, rfl, e⟩ := gII_inv hg
  cases e
  simp only [RRep, Rep] at r1 r2
  exact ⟨i, j, r1, r2, p.fro zh (by simp only [Rep])⟩
theorem o2_B0 {f : Int → Int → Bool} : Op2 K T W (rI0 fun i j => .bl (f i j)) (gII fun i j => vB (f i j)) := fun σ B Z H x y v w out Q zh r1 r2 hg p => by
  obtain ⟨i, j, rfl, rfl, e⟩ := gII_inv hg
  cases e
  simp only [RRep, Rep] at r1 r2
  exact ⟨i, j, r1, r2, p.fro zh (by simp only [Rep])⟩
theorem o2_I {C : Int → Int → Prop} {c : Int → Int → Bool} {f : Int → Int → Int} (hc : ∀ i j, c i j = true → C i j) : Op2 K T W (rI C fun i j => .int (f i j)) (gII fun i j => if c i j then vI (f i j) else none) := fun σ B Z H x y v w out Q zh r1 r2 hg p => by
  obtain ⟨i, j, rfl, rfl, e⟩ := gII_inv hg
  split at e
  · rename_i hcc
    cases e
    simp only [RRep, Rep] at r1 r2
    exact ⟨i, j, r1, r2, hc i j hcc, p.fro zh (by simp only [Rep])⟩
  · cases e
end
/-- the sizes that a product may have -/
def mulOk (i j : Int) : Bool := decide (i.natAbs.log2 + j.natAbs.log2 < 100000000)
theorem mulOk.ok {i j : Int} (h : mulOk i j = true) : IntMulOk i j := by
  have b : ∀ x : Int, Builtin.Int.intBits x ≤ x.natAbs.log2 + 1 := fun x => by
    unfold Builtin.Int.intBits
    split <;> omega
  have h1 := b i
  have h2 := b j
  have h3 : i.natAbs.log2 + j.natAbs.log2 < 100000000 := of_decide_eq_true h
  have e : bitsLine = 134217728 := by decide
  unfold IntMulOk
  intro z
  rw [Bool.and_eq_true] at z
  have z2 := z.2
  unfold Builtin.Int.intTooBig at z2
  have z3 := of_decide_eq_true z2
  rw [e] at z3
  omega
/-- the divisors that // may have -/
def divOk (_ j : Int) : Bool := decide (j ≠ 0)
def modOk (_ j : Int) : Bool := decide (j ≠ 0)
section
variable {X : Cx}
theorem op_mulD : OpR X (binaryOp .Mult) (rI (fun i j => mulOk i j = true) fun i j => .int (i * j)) := opI fun _ _ _ _ _ _ _ hc q => PyProof.Rows.mul_int q (mulOk.ok hc)
def gAdd : G2 := gII fun i j => vI (i + j)
def gSub : G2 := gII fun i j => vI (i - j)
def gMul : G2 := gII fun i j => if mulOk i j then vI (i * j) else none
def gDiv : G2 := gII fun i j => if divOk i j then vI (i.fdiv j) else none
def gMod : G2 := gII fun i j => if modOk i j then vI (i.fmod j) else none
def powOk (i j : Int) : Bool := decide (0 ≤ j) && decide (j ≤ 1000000) && decide (i.natAbs < 2 ^ 64)
def gPow : G2 := gII fun i j => if powOk i j then vI (i ^ j.toNat) else none
def gAnd : G2 := gII fun i j => vI (Builtin.bitAnd i j)
def gLt : G2 := gII fun i j => vB (decide (i < j))
def gLe : G2 := gII fun i j => vB (decide (i ≤ j))
def gGt : G2 := gII fun i j => vB (decide (j < i))
def gGe : G2 := gII fun i j => vB (decide (j ≤ i))
variable {T : Tab} {W : WX} {a b : Expr} {fa fb : FE} {pos : Pos}
theorem pd_add (ha : PD X T W a fa) (hb : PD X T W b fb) : PD X T W (.BinOp a .Add b pos) (e2 gAdd fa fb) := pd_op op_add o2_I0 ha hb
theorem pd_sub (ha : PD X T W a fa) (hb : PD X T W b fb) : PD X T W (.BinOp a .Sub b pos) (e2 gSub fa fb) := pd_op op_sub o2_I0 ha hb
theorem pd_mul (ha : PD X T W a fa) (hb : PD X T W b fb) : PD X T W (.BinOp a .Mult b pos) (e2 gMul fa fb) := pd_op op_mulD (o2_I fun _ _ h => h) ha hb
theorem pd_mod (ha : PD X T W a fa) (hb : PD X T W b fb) : PD X T W (.BinOp a .Mod b pos) (e2 gMod fa fb) := pd_op op_modN (o2_I fun _ _ h => of_decide_eq_true h) ha hb
theorem pd_pow (ha : PD X T W a fa) (hb : PD X T W b fb) : PD X T W (.BinOp a .Pow b pos) (e2 gPow fa fb) := pd_op op_pow (o2_I fun _ _ h => by
  unfold powOk at h
  simp only [Bool.and_eq_true, decide_eq_true_eq] at h
  exact ⟨h.1.1, h.1.2, h.2⟩) ha hb
theorem pd_and (ha : PD X T W a fa) (hb : PD X T W b fb) : PD X T W (.BinOp a .BitAnd b pos) (e2 gAnd fa fb) := pd_op op_and o2_I0 ha hb
theorem pd_lt (ha : PD X T W a fa) (hb : PD X T W b fb) : PD X T W (.Compare a [.Lt] [b] pos) (e2 gLt fa fb) := pd_cmp op_lt o2_B0 ha hb (nomark _)
theorem pd_le (ha : PD X T W a fa) (hb : PD X T W b fb) : PD X T W (.Compare a [.LtE] [b] pos) (e2 gLe fa fb) := pd_cmp op_le o2_B0 ha hb (nomark _)
theorem pd_gt (ha : PD X T W a fa) (hb : PD X T W b fb) : PD X T W (.Compare a [.Gt] [b] pos) (e2 gGt fa fb) := pd_cmp op_gt o2_B0 ha hb (nomark _)
theorem pd_ge (ha : PD X T W a fa) (hb : PD X T W b fb) : PD X T W (.Compare a [.GtE] [b] pos) (e2 gGe fa fb) := pd_cmp op_ge o2_B0 ha hb (nomark _)
end
end Pd

set_option maxHeartbeats 2000000
/-! PdB: tests, statements, a def's promise. -/
namespace Pd
open PySem PySem.Spec L2
open PyProof.Rows (envOfC)

/-! ### tests -/
abbrev FT := PEnv → M Bool
structure PostT (K : PySem.W.Frag) (T : Tab) (Z H : Hp) (σ : St) (W : WX) (Q : Bool → Hp → Prop) (out : Ex Bool) : Prop where
  ok : ∀ r, out = .ok r → ∀ Z' H', Ext4 Z H Z' H' → Q r H'
  ex : ∀ c ds, out = .ex c ds → ∀ cls d Z' H', Ext4 Z H Z' H' → XRep K T Z' H' cls d c ds → W cls d σ H'
theorem PostT.step {K : PySem.W.Frag} {T : Tab} {Z H Z1 H1 : Hp} {σ : St} {W : WX} {Q : Bool → Hp → Prop} {out : Ex Bool} (p : PostT K T Z H σ W Q out) (e : Ext4 Z H Z1 H1) : PostT K T Z1 H1 σ W Q out :=
  ⟨fun r h Z' H' e' => p.ok r h Z' H' (e.trans e'), fun c ds h cls d Z' H' e' x => p.ex c ds h cls d Z' H' (e.trans e') x⟩
def tDT (K : PySem.W.Frag) (T : Tab) (W : WX) (f : FT) : TT := fun σ H Q =>
  ∃ H0 Z0 env Z out, f env = some out ∧ SI K T H0 Z0 env σ Z H ∧ PostT K T Z H σ W Q out
abbrev PDT (X : Cx) (T : Tab) (W : WX) (e : Expr) (f : FT) : Prop := PT X e (tDT X.K T W f)
abbrev PDW (X : Cx) (T : Tab) (W : WX) (e : Expr) (f : FT) : Prop := PW X e (tDT X.K T W f)
theorem PT.imp {X : Cx} {e : Expr} {t t' : TT} (h : PT X e t) (i : ∀ σ H Q, t' σ H Q → t σ H Q) : PT X e t' := ⟨fun pins s σ H Q I q => h.run pins s σ H Q I (i σ H Q q)⟩
theorem PW.imp {X : Cx} {e : Expr} {t t' : TT} (h : PW X e t) (i : ∀ σ H Q, t' σ H Q → t σ H Q) : PW X e t' := ⟨fun wh pins s σ H Q I q => h.run wh pins s σ H Q I (i σ H Q q)⟩

section
variable {K : PySem.W.Frag} {T : Tab} {W : WX} {H0 Z H : Hp} {Z0 : Hx} {env : PEnv} {σ : St}
/-- an expression's part of anything -/
theorem tD_bndT {fa : FE} {k : Rs → M Bool} {out : Ex Bool} {Q : Bool → Hp → Prop} {G : VK} (h : bnd (fa env) k = some out) (s : SI K T H0 Z0 env σ Z H) (p : PostT K T Z H σ W Q out)
    (go : ∀ r v Z1 H1, k r = some out → Ext4 Z H Z1 H1 → RRep K T H Z1 H1 v r → SI K T H0 Z0 env σ Z1 H1 → PostT K T Z1 H1 σ W Q out → G v H1) : tD K T W fa σ H G := by
  rcases bnd_cases h with ⟨c, ds, e1, e2⟩ | ⟨r, e1, e2⟩
  · exact ⟨H0, Z0, env, Z, _, e1, s, fun r q => (nomatch q), fun c' ds' q cls d Z' H' e x => by cases q; exact p.ex _ _ e2 cls d Z' H' e x⟩
  · refine ⟨H0, Z0, env, Z, _, e1, s, fun r' q v Z' H' e rr => ?_, fun c' ds' q => (nomatch q)⟩
    cases q
    exact go r v Z' H' e2 e rr (s.step e) (p.step e)
/-- a test's part of a test -/
theorem tDT_bnd {fa : FT} {k : Bool → M Bool} {out : Ex Bool} {Q : Bool → Hp → Prop} {G : Bool → Hp → Prop} (h : bnd (fa env) k = some out) (s : SI K T H0 Z0 env σ Z H) (p : PostT K T Z H σ W Q out)
    (go : ∀ b Z1 H1, k b = some out → Ext4 Z H Z1 H1 → SI K T H0 Z0 env σ Z1 H1 → PostT K T Z1 H1 σ W Q out → G b H1) : tDT K T W fa σ H G := by
  rcases bnd_cases h with ⟨c, ds, e1, e2⟩ | ⟨r, e1, e2⟩
  · exact ⟨H0, Z0, env, Z, _, e1, s, fun r q => (nomatch q), fun c' ds' q cls d Z' H' e x => by cases q; exact p.ex _ _ e2 cls d Z' H' e x⟩
  · refine ⟨H0, Z0, env, Z, _, e1, s, fun r' q Z' H' e => ?_, fun c' ds' q => (nomatch q)⟩
    cases q
    exact go r Z' H' e2 e (s.step e) (p.step e)
/-- a test's part of an expression -/
theorem tDT_bndE {fa : FT} {k : Bool → M Rs} {out : Ex Rs} {Q : VK} {G : Bool → Hp → Prop} (h : bnd (fa env) k = some out) (s : SI K T H0 Z0 env σ Z H) (p : Post K T Z H σ W Q out)
    (go : ∀ b Z1 H1, k b = some out → Ext4 Z H Z1 H1 → SI K T H0 Z0 env σ Z1 H1 → Post K T Z1 H1 σ W Q out → G b H1) : tDT K T W fa σ H G := by
  rcases bnd_cases h with ⟨c, ds, e1, e2⟩ | ⟨r, e1, e2⟩
  · exact ⟨H0, Z0, env, Z, _, e1, s, fun r q => (nomatch q), fun c' ds' q cls d Z' H' e x => by cases q; exact p.ex _ _ e2 cls d Z' H' e x⟩
  · refine ⟨H0, Z0, env, Z, _, e1, s, fun r' q Z' H' e => ?_, fun c' ds' q => (nomatch q)⟩
    cases q
    exact go r Z' H' e2 e (s.step e) (p.step e)
end
/-- the answer as a bool -/
def asB : Rs → M Bool
  | .fro (.bl b) => some (.ok b)
  | _ => none
@[simp] theorem asB_bl (b : Bool) : asB (.fro (.bl b)) = some (.ok b) := rfl
theorem asB_inv {r : Rs} {out : Ex Bool} (h : asB r = some out) : ∃ b, r = .fro (.bl b) ∧ out = .ok b := by
  unfold asB at h
  split at h
  · cases h; exact ⟨_, rfl, rfl⟩
  · cases h
/-- the truth of a value of any kind -/
def tru : Rs → M Bool
  | .fro .non => some (.ok false)
  | .fro (.bl b) => some (.ok b)
  | .fro (.int i) => some (.ok (i != 0))
  | .fro (.lst ds) => some (.ok (!ds.isEmpty))
  | .own ds => some (.ok (!ds.isEmpty))
  | .bor ds => some (.ok (!ds.isEmpty))
  | .fro (.tup ds) => some (.ok (!ds.isEmpty))
  | _ => none
def tB (f : FE) : FT := fun ρ => bnd (f ρ) asB
def tTru (f : FE) : FT := fun ρ => bnd (f ρ) tru
def tNot (t : FT) : FT := fun ρ => bnd (t ρ) fun b => some (.ok (!b))
def tAnd (t u : FT) : FT := fun ρ => bnd (t ρ) fun b => if b then u ρ else some (.ok false)
def tOr (t u : FT) : FT := fun ρ => bnd (t ρ) fun b => if b then some (.ok true) else u ρ
def eAnd (f g : FE) : FE := fun ρ => bnd (f ρ) fun r => bnd (asB r) fun b => if b then g ρ else vB false
def eOr (f g : FE) : FE := fun ρ => bnd (f ρ) fun r => bnd (asB r) fun b => if b then vB true else g ρ
def eNot (f : FE) : FE := fun ρ => bnd (f ρ) fun r => bnd (asB r) fun b => vB (!b)
def eIf (t : FT) (f g : FE) : FE := fun ρ => bnd (t ρ) fun b => if b then f ρ else g ρ
def eChain (g g' : G2) (fa fb fc : FE) : FE := fun ρ => bnd (fa ρ) fun x => bnd (fb ρ) fun y => bnd (g x y) fun z => bnd (asB z) fun b => if b then bnd (fc ρ) fun w => g' y w else vB false

section
variable {X : Cx} {T : Tab} {W : WX} {a b c : Expr} {fa fb fc : FE} {ta tb : FT} {pos : Pos} {rest : List Expr}
theorem reps_empty {K : PySem.W.Frag} {Z : Hp} {ds : List Dt} {vs : List V} (h : Reps K T Z ds vs) : ds.isEmpty = vs.isEmpty := by
  cases ds with
  | nil => rw [h.nil_inv]; rfl
  | cons d ds => obtain ⟨v, r, rfl, _⟩ := h.cons_inv; rfl
/-- a value that is True or False, as a test (not a comparison, and, or, not) -/
theorem pdt_val (ha : PD X T W a fa) (he : ∀ whole, isTrue a X.env whole = (do let v ← whole; standAt a.pos; holding [v] (truthy v)) := by intro _; rfl) : PDT X T W a (tB fa) := by
  refine PT.imp (pt_val ha he) fun σ H Q ⟨H0, Z0, env, Z, out, h, s, p⟩ => ?_
  refine tD_bndT h s p fun r v Z1 H1 hk e1 rr s1 p1 => ?_
  obtain ⟨b, rfl, rfl⟩ := asB_inv hk
  simp only [RRep, Rep] at rr
  exact ⟨b, rr, p1.ok b rfl Z1 H1 (Ext4.refl e1.zh)⟩
theorem pdt_tru (ha : PD X T W a fa) (he : ∀ whole, isTrue a X.env whole = (do let v ← whole; standAt a.pos; holding [v] (truthy v)) := by intro _; rfl) : PDT X T W a (tTru fa) := by
  refine PT.imp (pt_truth ha he) fun σ H Q ⟨H0, Z0, env, Z, out, h, s, p⟩ => ?_
  refine tD_bndT h s p fun r v Z1 H1 hk e1 rr s1 p1 => ?_
  unfold tru at hk
  split at hk <;> first | cases hk | skip
  · simp only [RRep, Rep] at rr; subst rr; exact ⟨_, rfl, p1.ok _ rfl Z1 H1 (Ext4.refl e1.zh)⟩
  · simp only [RRep, Rep] at rr; subst rr; exact ⟨_, rfl, p1.ok _ rfl Z1 H1 (Ext4.refl e1.zh)⟩
  · simp only [RRep, Rep] at rr; subst rr; exact ⟨_, rfl, p1.ok _ rfl Z1 H1 (Ext4.refl e1.zh)⟩
  · simp only [RRep, Rep] at rr
    obtain ⟨q, vs, rfl, h1, h2⟩ := rr
    exact ⟨_, .inl ⟨vs, e1.zh.seqL h1, by rw [reps_empty h2]⟩, p1.ok _ rfl Z1 H1 (Ext4.refl e1.zh)⟩
  · obtain ⟨q, vs, rfl, _, h1, _, h2⟩ := rr
    exact ⟨_, .inl ⟨vs, .of h1, by rw [reps_empty h2]⟩, p1.ok _ rfl Z1 H1 (Ext4.refl e1.zh)⟩
  · obtain ⟨q, vs, rfl, h1, h2⟩ := rr
    exact ⟨_, .inl ⟨vs, .of h1, by rw [reps_empty h2]⟩, p1.ok _ rfl Z1 H1 (Ext4.refl e1.zh)⟩
  · simp only [RRep, Rep] at rr
    obtain ⟨q, vs, rfl, h1, h2⟩ := rr
    exact ⟨_, .inr (.inl ⟨vs, e1.zh.seqT h1, by rw [reps_empty h2]⟩), p1.ok _ rfl Z1 H1 (Ext4.refl e1.zh)⟩
theorem pdt_cmp {op : CmpOp} {r : R2} {g : G2} (ho : OpR X (compareOp op) r) (h : Op2 X.K T W r g) (ha : PD X T W a fa) (hb : PD X T W b fb) (hm : behindInMarks op b = false) : PDT X T W (.Compare a [op] [b] pos) (tB (e2 g fa fb)) := by
  refine PT.imp (pt_cmpR ho ha hb hm) fun σ H Q ⟨H0, Z0, env, Z, out, hf, s, p⟩ => ?_
  have q : tD X.K T W (e2 g fa fb) σ H fun x H' => ∃ k, x = .bl k ∧ Q k H' :=
    tD_bndT hf s p fun r v Z1 H1 hk e1 rr s1 p1 => by
      obtain ⟨b, rfl, rfl⟩ := asB_inv hk
      simp only [RRep, Rep] at rr
      exact ⟨b, rr, p1.ok b rfl Z1 H1 (Ext4.refl e1.zh)⟩
  exact tOp_of h q
theorem pdt_lt (ha : PD X T W a fa) (hb : PD X T W b fb) : PDT X T W (.Compare a [.Lt] [b] pos) (tB (e2 gLt fa fb)) := pdt_cmp op_lt o2_B0 ha hb (nomark _)
theorem pdt_le (ha : PD X T W a fa) (hb : PD X T W b fb) : PDT X T W (.Compare a [.LtE] [b] pos) (tB (e2 gLe fa fb)) := pdt_cmp op_le o2_B0 ha hb (nomark _)
theorem pdt_gt (ha : PD X T W a fa) (hb : PD X T W b fb) : PDT X T W (.Compare a [.Gt] [b] pos) (tB (e2 gGt fa fb)) := pdt_cmp op_gt o2_B0 ha hb (nomark _)
theorem pdt_ge (ha : PD X T W a fa) (hb : PD X T W b fb) : PDT X T W (.Compare a [.GtE] [b] pos) (tB (e2 gGe fa fb)) := pdt_cmp op_ge o2_B0 ha hb (nomark _)
theorem pdt_not (ha : PDT X T W a ta) : PDT X T W (.UnaryOp .Not a pos) (tNot ta) := by
  refine PT.imp (pt_not ha) fun σ H Q ⟨H0, Z0, env, Z, out, h, s, p⟩ => ?_
  refine tDT_bnd h s p fun b Z1 H1 hk e1 s1 p1 => ?_
  cases hk
  exact p1.ok _ rfl Z1 H1 (Ext4.refl e1.zh)
theorem pdw_and1 (ha : PDT X T W a ta) : PDW X T W (.BoolOp .And [a] pos) ta := pw_and1 ha
theorem pdw_or1 (ha : PDT X T W a ta) : PDW X T W (.BoolOp .Or [a] pos) ta := pw_or1 ha
theorem pdw_and (ha : PDT X T W a ta) (hb : PDW X T W (.BoolOp .And (b :: rest) pos) tb) : PDW X T W (.BoolOp .And (a :: b :: rest) pos) (tAnd ta tb) := by
  refine PW.imp (pw_and ha hb) fun σ H Q ⟨H0, Z0, env, Z, out, h, s, p⟩ => ?_
  refine tDT_bnd h s p fun b Z1 H1 hk e1 s1 p1 => ?_
  cases b with
  | true => exact iteT ⟨H0, Z0, env, Z1, out, hk, s1, p1⟩
  | false => cases hk; exact iteF (p1.ok _ rfl Z1 H1 (Ext4.refl e1.zh))
theorem pdw_or (ha : PDT X T W a ta) (hb : PDW X T W (.BoolOp .Or (b :: rest) pos) tb) : PDW X T W (.BoolOp .Or (a :: b :: rest) pos) (tOr ta tb) := by
  refine PW.imp (pw_or ha hb) fun σ H Q ⟨H0, Z0, env, Z, out, h, s, p⟩ => ?_
  refine tDT_bnd h s p fun b Z1 H1 hk e1 s1 p1 => ?_
  cases b with
  | true => cases hk; exact iteT (p1.ok _ rfl Z1 H1 (Ext4.refl e1.zh))
  | false => exact iteF ⟨H0, Z0, env, Z1, out, hk, s1, p1⟩
theorem pdt_of (h : PDW X T W a ta) : PDT X T W a ta := PW.pt h
theorem pd_one {op} (ha : PD X T W a fa) : PD X T W (.BoolOp op [a] pos) fa := pe_one ha
theorem pd_and' (ha : PD X T W a fa) (hb : PD X T W (.BoolOp .And (b :: rest) pos) fb) : PD X T W (.BoolOp .And (a :: b :: rest) pos) (eAnd fa fb) := by
  refine PE.imp (pe_and ha hb) fun σ H Q ⟨H0, Z0, env, Z, out, h, s, p⟩ => ?_
  refine tD_bnd h s p fun r v Z1 H1 hk e1 rr s1 p1 => ?_
  rcases bnd_cases hk with ⟨c, ds, q1, q2⟩ | ⟨b, q1, q2⟩
  · obtain ⟨_, _, z⟩ := asB_inv q1; cases z
  · obtain ⟨b', rfl, z⟩ := asB_inv q1; cases z
    simp only [RRep, Rep] at rr
    refine ⟨b, rr, ?_⟩
    cases b with
    | true => exact iteT ⟨H0, Z0, env, Z1, out, q2, s1, p1⟩
    | false => cases q2; exact iteF (p1.fro e1.zh (by simp only [Rep]))
theorem pd_or' (ha : PD X T W a fa) (hb : PD X T W (.BoolOp .Or (b :: rest) pos) fb) : PD X T W (.BoolOp .Or (a :: b :: rest) pos) (eOr fa fb) := by
  refine PE.imp (pe_or ha hb) fun σ H Q ⟨H0, Z0, env, Z, out, h, s, p⟩ => ?_
  refine tD_bnd h s p fun r v Z1 H1 hk e1 rr s1 p1 => ?_
  rcases bnd_cases hk with ⟨c, ds, q1, q2⟩ | ⟨b, q1, q2⟩
  · obtain ⟨_, _, z⟩ := asB_inv q1; cases z
  · obtain ⟨b', rfl, z⟩ := asB_inv q1; cases z
    simp only [RRep, Rep] at rr
    refine ⟨b, rr, ?_⟩
    cases b with
    | true => cases q2; exact iteT (p1.fro e1.zh (by simp only [Rep]))
    | false => exact iteF ⟨H0, Z0, env, Z1, out, q2, s1, p1⟩
theorem pd_not (ha : PD X T W a fa) : PD X T W (.UnaryOp .Not a pos) (eNot fa) := by
  refine PE.imp (pe_not ha) fun σ H Q ⟨H0, Z0, env, Z, out, h, s, p⟩ => ?_
  refine tD_bnd h s p fun r v Z1 H1 hk e1 rr s1 p1 => ?_
  rcases bnd_cases hk with ⟨c, ds, q1, q2⟩ | ⟨b, q1, q2⟩
  · obtain ⟨_, _, z⟩ := asB_inv q1; cases z
  · obtain ⟨b', rfl, z⟩ := asB_inv q1; cases z
    simp only [RRep, Rep] at rr
    cases q2
    exact ⟨b, rr, p1.fro e1.zh (by simp only [Rep])⟩
theorem pd_if (ht : PDT X T W c ta) (ha : PD X T W a fa) (hb : PD X T W b fb) : PD X T W (.IfExp c a b pos) (eIf ta fa fb) := by
  refine PE.imp (pe_ifExp ht ha hb) fun σ H Q ⟨H0, Z0, env, Z, out, h, s, p⟩ => ?_
  refine tDT_bndE h s p fun b Z1 H1 hk e1 s1 p1 => ?_
  cases b with
  | true => exact iteT ⟨H0, Z0, env, Z1, out, hk, s1, p1⟩
  | false => exact iteF ⟨H0, Z0, env, Z1, out, hk, s1, p1⟩
theorem chain_of {r r' : R2} {g g' : G2} (h : ∀ W', Op2 X.K T W' r g) (h' : Op2 X.K T W r' g') {σ : St} {H : Hp} {Q : VK} (q : tD X.K T W (eChain g g' fa fb fc) σ H Q) : tChain r r' (tD X.K T W fa) (tD X.K T W fb) (tD X.K T W fc) σ H Q := by
  obtain ⟨H0, Z0, env, Z, out, hf, s, p⟩ := q
  refine tD_bnd hf s p fun x v Z1 H1 hk e1 r1 s1 p1 => ?_
  refine tD_bnd hk s1 p1 fun y w Z2 H2 hk2 e2 r2 s2 p2 => ?_
  rcases bnd_cases hk2 with ⟨c, ds, q1, q2⟩ | ⟨z, q1, q2⟩
  · refine h W σ H Z2 H2 x y v w _ _ e2.zh (r1.step e2) (r2.base e1.hh) q1 ⟨fun r z => (nomatch z), fun c' ds' z cls d Z' H' e xr => ?_⟩
    exact p2.ex c' ds' (q2.trans z) cls d Z' H' e xr
  · refine h W σ H Z2 H2 x y v w _ _ e2.zh (r1.step e2) (r2.base e1.hh) q1 ⟨fun r z' u Z3 H3 e3 r3 => ?_, fun c' ds' z => (nomatch z)⟩
    cases z'
    have p3 := p2.step e3
    have s3 := s2.step e3
    rcases bnd_cases q2 with ⟨c, ds, q1, q2⟩ | ⟨b, q1, q2⟩
    · obtain ⟨_, _, z⟩ := asB_inv q1; cases z
    · obtain ⟨b', rfl, z⟩ := asB_inv q1; cases z
      simp only [RRep, Rep] at r3
      refine ⟨b, r3, ?_⟩
      cases b with
      | true =>
        refine iteT (tD_bnd q2 s3 p3 fun y' w' Z4 H4 hk4 e4 r4 s4 p4 => ?_)
        exact h' σ H Z4 H4 y y' w w' out Q e4.zh ((r2.step e3).step e4 |>.base e1.hh) (r4.base (e1.hh.trans (e2.hh.trans e3.hh))) hk4 p4
      | false => cases q2; exact iteF (p3.fro e3.zh (by simp only [Rep]))
theorem pd_chain {op op' : CmpOp} {r r' : R2} {g g' : G2} (ho : OpR X (compareOp op) r) (ho' : OpR X (compareOp op') r') (h : ∀ W', Op2 X.K T W' r g) (h' : Op2 X.K T W r' g') (ha : PD X T W a fa) (hb : PD X T W b fb) (hc : PD X T W c fc)
    (hm : lastMarks [op, op'] [b, c] = false := by with_unfolding_all rfl) : PD X T W (.Compare a [op, op'] [b, c] pos) (eChain g g' fa fb fc) :=
  PE.imp (pe_chain ho ho' ha hb hc hm) fun _ _ _ q => chain_of h h' q
theorem pdt_chain {op op' : CmpOp} {r r' : R2} {g g' : G2} (ho : OpR X (compareOp op) r) (ho' : OpR X (compareOp op') r') (h : ∀ W', Op2 X.K T W' r g) (h' : Op2 X.K T W r' g') (ha : PD X T W a fa) (hb : PD X T W b fb) (hc : PD X T W c fc)
    (hm : lastMarks [op, op'] [b, c] = false := by with_unfolding_all rfl) : PDT X T W (.Compare a [op, op'] [b, c] pos) (tB (eChain g g' fa fb fc)) := by
  refine PT.imp (pt_chain ho ho' ha hb hc hm) fun σ H Q ⟨H0, Z0, env, Z, out, hf, s, p⟩ => ?_
  have q : tD X.K T W (eChain g g' fa fb fc) σ H fun x H' => ∃ k, x = .bl k ∧ Q k H' :=
    tD_bndT hf s p fun r v Z1 H1 hk e1 rr s1 p1 => by
      obtain ⟨b, rfl, rfl⟩ := asB_inv hk
      simp only [RRep, Rep] at rr
      exact ⟨b, rr, p1.ok b rfl Z1 H1 (Ext4.refl e1.zh)⟩
  exact chain_of h h' q
theorem pdt_lele (ha : PD X T W a fa) (hb : PD X T W b fb) (hc : PD X T W c fc) (hm : lastMarks [.LtE, .LtE] [b, c] = false := by with_unfolding_all rfl) : PDT X T W (.Compare a [.LtE, .LtE] [b, c] pos) (tB (eChain gLe gLe fa fb fc)) := pdt_chain op_le op_le (fun _ => o2_B0) o2_B0 ha hb hc hm
theorem pdt_lelt (ha : PD X T W a fa) (hb : PD X T W b fb) (hc : PD X T W c fc) (hm : lastMarks [.LtE, .Lt] [b, c] = false := by with_unfolding_all rfl) : PDT X T W (.Compare a [.LtE, .Lt] [b, c] pos) (tB (eChain gLe gLt fa fb fc)) := pdt_chain op_le op_lt (fun _ => o2_B0) o2_B0 ha hb hc hm
theorem pdt_ltlt (ha : PD X T W a fa) (hb : PD X T W b fb) (hc : PD X T W c fc) (hm : lastMarks [.Lt, .Lt] [b, c] = false := by with_unfolding_all rfl) : PDT X T W (.Compare a [.Lt, .Lt] [b, c] pos) (tB (eChain gLt gLt fa fb fc)) := pdt_chain op_lt op_lt (fun _ => o2_B0) o2_B0 ha hb hc hm
theorem pdt_ltle (ha : PD X T W a fa) (hb : PD X T W b fb) (hc : PD X T W c fc) (hm : lastMarks [.Lt, .LtE] [b, c] = false := by with_unfolding_all rfl) : PDT X T W (.Compare a [.Lt, .LtE] [b, c] pos) (tB (eChain gLt gLe fa fb fc)) := pdt_chain op_lt op_le (fun _ => o2_B0) o2_B0 ha hb hc hm
end

/-! ### == and != of scalars, is None -/
/-- the scalars that == tells apart -/
def sclD : Dt → Dt → Option Bool
  | .non, .non => some true | .non, .int _ => some false | .int _, .non => some false | .non, .bl _ => some false | .bl _, .non => some false | .non, .str _ => some false | .str _, .non => some false
  | .int i, .int j => some (decide (i = j)) | .bl i, .bl j => some (decide (i = j)) | .str i, .str j => some (decide (i = j))
  | .int _, .str _ => some false | .str _, .int _ => some false | .bl _, .str _ => some false | .str _, .bl _ => some false
  | _, _ => none
def gEqS : G2
  | .fro a, .fro b => match sclD a b with | some r => vB r | none => none
  | _, _ => none
def gNeS : G2
  | .fro a, .fro b => match sclD a b with | some r => vB (!r) | none => none
  | _, _ => none
theorem sclD_ok {K : PySem.W.Frag} {T : Tab} {Z : Hp} {a b : Dt} {v w : V} {r : Bool} (h : sclD a b = some r) (h1 : Rep K T Z a v) (h2 : Rep K T Z b w) : scal v w = true ∧ decide (v = w) = r := by
  cases a <;> cases b <;> first | (cases h; done) | (simp only [Rep] at h1 h2; subst h1 h2; simp only [sclD, Option.some.injEq] at h; subst h; exact ⟨rfl, by simp⟩)
section
variable {X : Cx} {T : Tab} {W : WX} {a b c : Expr} {fa fb fc : FE} {pos : Pos}
theorem o2_eqS {K : PySem.W.Frag} : Op2 K T W rEq gEqS := fun σ B Z H x y v w out Q zh r1 r2 hg p => by
  unfold gEqS at hg
  split at hg
  · split at hg
    · rename_i r hr
      cases hg
      obtain ⟨e1, e2⟩ := sclD_ok hr r1 r2
      exact ⟨e1, by rw [e2]; exact p.fro zh (by simp only [Rep])⟩
    · cases hg
  · cases hg
theorem o2_neS {K : PySem.W.Frag} : Op2 K T W rNe gNeS := fun σ B Z H x y v w out Q zh r1 r2 hg p => by
  unfold gNeS at hg
  split at hg
  · split at hg
    · rename_i r hr
      cases hg
      obtain ⟨e1, e2⟩ := sclD_ok hr r1 r2
      exact ⟨e1, by rw [e2]; exact p.fro zh (by simp only [Rep])⟩
    · cases hg
  · cases hg
theorem pd_eqS (ha : PD X T W a fa) (hb : PD X T W b fb) : PD X T W (.Compare a [.Eq] [b] pos) (e2 gEqS fa fb) := pd_cmp op_eq o2_eqS ha hb (nomark _)
theorem pd_neS (ha : PD X T W a fa) (hb : PD X T W b fb) : PD X T W (.Compare a [.NotEq] [b] pos) (e2 gNeS fa fb) := pd_cmp op_ne o2_neS ha hb (nomark _)
theorem pdt_eqS (ha : PD X T W a fa) (hb : PD X T W b fb) : PDT X T W (.Compare a [.Eq] [b] pos) (tB (e2 gEqS fa fb)) := pdt_cmp op_eq o2_eqS ha hb (nomark _)
theorem pdt_neS (ha : PD X T W a fa) (hb : PD X T W b fb) : PDT X T W (.Compare a [.NotEq] [b] pos) (tB (e2 gNeS fa fb)) := pdt_cmp op_ne o2_neS ha hb (nomark _)
def isNon : Dt → Bool
  | .non => true
  | _ => false
theorem isNon_ok {K : PySem.W.Frag} {Z : Hp} {a : Dt} {v : V} (h : Rep K T Z a v) : decide (v = .non) = isNon a := by
  cases a <;> simp only [Rep] at h <;> first | (subst h; rfl) | (obtain ⟨_, _, rfl, _⟩ := h; rfl) | (obtain ⟨_, _, _, rfl, _⟩ := h; rfl)
def gIsN : G2
  | .fro a, .fro .non => vB (isNon a)
  | _, _ => none
def gNotN : G2
  | .fro a, .fro .non => vB (!isNon a)
  | _, _ => none
theorem o2_isN {K : PySem.W.Frag} : Op2 K T W (fun x y H Q => y = .non ∧ Q (.bl (decide (x = .non))) H) gIsN := fun σ B Z H x y v w out Q zh r1 r2 hg p => by
  unfold gIsN at hg
  split at hg
  · cases hg
    refine ⟨by simpa only [RRep, Rep] using r2, ?_⟩
    rw [isNon_ok r1]
    exact p.fro zh (by simp only [Rep])
  · cases hg
theorem o2_notN {K : PySem.W.Frag} : Op2 K T W (fun x y H Q => y = .non ∧ Q (.bl (!decide (x = .non))) H) gNotN := fun σ B Z H x y v w out Q zh r1 r2 hg p => by
  unfold gNotN at hg
  split at hg
  · cases hg
    refine ⟨by simpa only [RRep, Rep] using r2, ?_⟩
    rw [isNon_ok r1]
    exact p.fro zh (by simp only [Rep])
  · cases hg
theorem pdt_isN (ha : PD X T W a fa) (hb : PD X T W b fb) : PDT X T W (.Compare a [.Is] [b] pos) (tB (e2 gIsN fa fb)) := pdt_cmp op_isN o2_isN ha hb (nomark _)
theorem pdt_notN (ha : PD X T W a fa) (hb : PD X T W b fb) : PDT X T W (.Compare a [.IsNot] [b] pos) (tB (e2 gNotN fa fb)) := pdt_cmp op_notN o2_notN ha hb (nomark _)
/-- -x of an int -/
def gNeg : G1
  | .fro (.int i) => vI (-i)
  | _ => none
theorem pd_neg (ha : PD X T W a fa) : PD X T W (.UnaryOp .USub a pos) (e1 gNeg fa) := pd_un un_neg (fun σ B Z H x v out Q zh r1 hg p => by
  unfold gNeg at hg
  split at hg
  · cases hg
    simp only [RRep, Rep] at r1
    exact ⟨_, r1, p.fro zh (by simp only [Rep])⟩
  · cases hg) ha
end

/-! ### statements -/
inductive Out where
  | nx (env : PEnv) | rt (r : Rs) | bk (env : PEnv) | ct (env : PEnv) | xc (c : Nat) (ds : List Dt) (env : PEnv)
abbrev FS := PEnv → Option Out
structure PostS (K : PySem.W.Frag) (T : Tab) (H0 : Hp) (Z0 : Hx) (W : WX) (D : Ends) (out : Out) : Prop where
  nx : ∀ env, out = .nx env → ∀ σ Z H, SI K T H0 Z0 env σ Z H → D.nx σ H
  rt : ∀ r, out = .rt r → ∀ v Z H, Ext4 Z0.1 H0 Z H → RRep K T H0 Z H v r → D.rt v H
  bk : ∀ env, out = .bk env → ∀ σ Z H, SI K T H0 Z0 env σ Z H → D.bk σ H
  ct : ∀ env, out = .ct env → ∀ σ Z H, SI K T H0 Z0 env σ Z H → D.ct σ H
  xc : ∀ c ds env, out = .xc c ds env → ∀ cls d σ Z H, SI K T H0 Z0 env σ Z H → XRep K T Z H cls d c ds → W cls d σ H
def tDS (K : PySem.W.Frag) (T : Tab) (W : WX) (F : FS) : TS := fun D σ H => ∃ H0 Z0 env Z out, F env = some out ∧ SI K T H0 Z0 env σ Z H ∧ PostS K T H0 Z0 W D out
abbrev PDS (X : Cx) (T : Tab) (W : WX) (st : Stmt) (F : FS) : Prop := PS X st (tDS X.K T W F)
abbrev PDSs (X : Cx) (T : Tab) (W : WX) (st : List Stmt) (F : FS) : Prop := PSs X st (tDS X.K T W F)
theorem PS.imp {X : Cx} {e : Stmt} {t t' : TS} (h : PS X e t) (i : ∀ D σ H, t' D σ H → t D σ H) : PS X e t' := ⟨fun pins s σ H D I q => h.run pins s σ H D I (i D σ H q)⟩
theorem PSs.imp {X : Cx} {e : List Stmt} {t t' : TS} (h : PSs X e t) (i : ∀ D σ H, t' D σ H → t D σ H) : PSs X e t' := ⟨fun pins s σ H D I q => h.run pins s σ H D I (i D σ H q)⟩

/-- a value, then a statement's end -/
def bndS {α : Type} (ρ : PEnv) (m : M α) (k : α → Option Out) : Option Out :=
  match m with
  | none => none
  | some (.ok a) => k a
  | some (.ex c ds) => some (.xc c ds ρ)
@[simp] theorem bndS_ok {α : Type} (ρ : PEnv) (a : α) (k : α → Option Out) : bndS ρ (some (.ok a)) k = k a := rfl
@[simp] theorem bndS_ex {α : Type} (ρ : PEnv) (c : Nat) (ds : List Dt) (k : α → Option Out) : bndS ρ (some (.ex c ds)) k = some (.xc c ds ρ) := rfl
@[simp] theorem bndS_none {α : Type} (ρ : PEnv) (k : α → Option Out) : bndS ρ (none : M α) k = none := rfl
theorem bndS_cases {α : Type} {ρ : PEnv} {m : M α} {k : α → Option Out} {out : Out} (h : bndS ρ m k = some out) : (∃ c ds, m = some (.ex c ds) ∧ out = .xc c ds ρ) ∨ (∃ r, m = some (.ok r) ∧ k r = some out) := by
  cases m with
  | none => cases h
  | some x =>
    cases x with
    | ok a => exact .inr ⟨a, rfl, h⟩
    | ex c ds => cases h; exact .inl ⟨c, ds, rfl, rfl⟩
section
variable {K : PySem.W.Frag} {T : Tab} {W : WX} {H0 Z H : Hp} {Z0 : Hx} {env : PEnv} {σ : St} {D : Ends} {out : Out}
theorem tD_bndS {fa : FE} {k : Rs → Option Out} {G : VK} (h : bndS env (fa env) k = some out) (s : SI K T H0 Z0 env σ Z H) (p : PostS K T H0 Z0 W D out)
    (go : ∀ r v Z1 H1, k r = some out → Ext4 Z H Z1 H1 → RRep K T H Z1 H1 v r → SI K T H0 Z0 env σ Z1 H1 → G v H1) : tD K T W fa σ H G := by
  rcases bndS_cases h with ⟨c, ds, e1, e2⟩ | ⟨r, e1, e2⟩
  · exact ⟨H0, Z0, env, Z, _, e1, s, fun r q => (nomatch q), fun c' ds' q cls d Z' H' e x => by cases q; exact p.xc _ _ _ e2 cls d σ Z' H' (s.step e) x⟩
  · refine ⟨H0, Z0, env, Z, _, e1, s, fun r' q v Z' H' e rr => ?_, fun c' ds' q => (nomatch q)⟩
    cases q
    exact go r v Z' H' e2 e rr (s.step e)
theorem tD_bndSF {fa : FE} {k : Dt → Option Out} {G : VK} (h : bndS env (fa env) (fun r => bndS env (frz r) k) = some out) (s : SI K T H0 Z0 env σ Z H) (p : PostS K T H0 Z0 W D out)
    (go : ∀ d v Z1 H1, k d = some out → Ext4 Z H Z1 H1 → Rep K T Z1 d v → SI K T H0 Z0 env σ Z1 H1 → G v H1) : tD K T W fa σ H G := by
  refine tD_bndS h s p fun r v Z1 H1 hk e rr s1 => ?_
  rcases bndS_cases hk with ⟨c, ds, e1, e2⟩ | ⟨d, e1, e2⟩
  · cases r <;> cases e1
  · obtain ⟨Z2, x, _, y⟩ := rr.freeze e1 e
    exact go d v Z2 H1 e2 x y (s.step x)
theorem tDT_bndS {fa : FT} {k : Bool → Option Out} {G : Bool → Hp → Prop} (h : bndS env (fa env) k = some out) (s : SI K T H0 Z0 env σ Z H) (p : PostS K T H0 Z0 W D out)
    (go : ∀ b Z1 H1, k b = some out → Ext4 Z H Z1 H1 → SI K T H0 Z0 env σ Z1 H1 → G b H1) : tDT K T W fa σ H G := by
  rcases bndS_cases h with ⟨c, ds, e1, e2⟩ | ⟨r, e1, e2⟩
  · exact ⟨H0, Z0, env, Z, _, e1, s, fun r q => (nomatch q), fun c' ds' q cls d Z' H' e x => by cases q; exact p.xc _ _ _ e2 cls d σ Z' H' (s.step e) x⟩
  · refine ⟨H0, Z0, env, Z, _, e1, s, fun r' q Z' H' e => ?_, fun c' ds' q => (nomatch q)⟩
    cases q
    exact go r Z' H' e2 e (s.step e)
/-- a frozen value is put into a place -/
theorem SI.setFro (s : SI K T H0 Z0 env σ Z H) {i : Nat} {d : Dt} {v : V} (r : Rep K T Z d v) : SI K T H0 Z0 (env.set i (some (.fro d))) (σ.set i (some v)) Z H := by
  refine ⟨s.ext, by simp [s.len], fun j c h => ?_, fun j k u hjk h1 h2 h3 h4 => ?_, fun j c' ds' v' h h' => ?_⟩
  rotate_right 1
  · by_cases q : i = j
    · subst q
      by_cases hl : i < env.length
      · rw [List.getElem?_set_self hl] at h; cases h
      · rw [List.getElem?_eq_none (by simpa using hl)] at h; cases h
    · rw [List.getElem?_set_ne q] at h h'; exact s.me j _ _ _ h h'
  · by_cases q : i = j
    · subst q
      have hl : i < env.length := by
        have := (List.getElem?_eq_some_iff.mp h).1
        simpa using this
      rw [List.getElem?_set_self hl] at h
      cases h
      exact ⟨v, by rw [List.getElem?_set_self (by rw [← s.len]; exact hl)], r⟩
    · rw [List.getElem?_set_ne q] at h
      obtain ⟨u, h1, h2⟩ := s.cell j c h
      exact ⟨u, by rw [List.getElem?_set_ne q]; exact h1, h2⟩
  · have nf : ∀ m, isOwnC ((env.set i (some (.fro d)))[m]?) → i ≠ m ∧ isOwnC env[m]? := fun m hm => by
      by_cases q : i = m
      · subst q
        by_cases hl : i < env.length
        · rw [List.getElem?_set_self hl] at hm; exact hm.elim
        · rw [List.getElem?_eq_none (by simpa using hl)] at hm; exact hm.elim
      · rw [List.getElem?_set_ne q] at hm; exact ⟨q, hm⟩
    obtain ⟨a1, a2⟩ := nf j h1
    obtain ⟨b1, b2⟩ := nf k h2
    rw [List.getElem?_set_ne a1] at h3
    rw [List.getElem?_set_ne b1] at h4
    exact s.sep j k u hjk a2 b2 h3 h4
/-- a new object of one's own is put into a place: no other place holds it -/
theorem SI.setOwn (s : SI K T H0 Z0 env σ Z H) {i : Nat} {ds : List Dt} {q : Addr} (r : CRep K T H0 Z H (.ref q) (.own ds)) (n : ∀ (j : Nat), isOwnC env[j]? → σ[j]? = some (some (.ref q)) → i = j) : SI K T H0 Z0 (env.set i (some (.own ds))) (σ.set i (some (.ref q))) Z H := by
  refine ⟨s.ext, by simp [s.len], fun j c' h => ?_, fun j k u hjk h1 h2 h3 h4 => ?_, fun j c' ds' v' h h' => ?_⟩
  rotate_right 1
  · by_cases e : i = j
    · subst e
      by_cases hl : i < env.length
      · rw [List.getElem?_set_self hl] at h; cases h
      · rw [List.getElem?_eq_none (by simpa using hl)] at h; cases h
    · rw [List.getElem?_set_ne e] at h h'; exact s.me j _ _ _ h h'
  · by_cases e : i = j
    · subst e
      have hl : i < env.length := by
        have := (List.getElem?_eq_some_iff.mp h).1
        simpa using this
      rw [List.getElem?_set_self hl] at h
      cases h
      exact ⟨_, by rw [List.getElem?_set_self (by rw [← s.len]; exact hl)], r⟩
    · rw [List.getElem?_set_ne e] at h
      obtain ⟨u, h1, h2⟩ := s.cell j c' h
      exact ⟨u, by rw [List.getElem?_set_ne e]; exact h1, h2⟩
  · by_cases a : i = j
    · subst a
      have b : i ≠ k := hjk
      rw [List.getElem?_set_ne b] at h2 h4
      have hl : i < σ.length := by
        have := (List.getElem?_eq_some_iff.mp h3).1
        simpa using this
      rw [List.getElem?_set_self hl] at h3
      cases h3
      exact b (n k h2 h4)
    · rw [List.getElem?_set_ne a] at h1 h3
      by_cases b : i = k
      · subst b
        have hl : i < σ.length := by
          have := (List.getElem?_eq_some_iff.mp h4).1
          simpa using this
        rw [List.getElem?_set_self hl] at h4
        cases h4
        exact a (n j h1 h3)
      · rw [List.getElem?_set_ne b] at h2 h4
        exact s.sep j k u hjk h1 h2 h3 h4
/-- what a place of one's own holds stands in the heap -/
theorem SI.ownAt (s : SI K T H0 Z0 env σ Z H) {j : Nat} {v : V} (h : isOwnC env[j]?) (e : σ[j]? = some (some v)) : ∃ q o, v = .ref q ∧ H q = some o ∧ H0 q = none ∧ Z q = none := by
  match he : env[j]?, h with
  | some (some (.own ds)), _ =>
    obtain ⟨u, h1, q, vs, rfl, b, hq, zq, _⟩ := s.cell j _ he
    rw [e] at h1; cases h1
    exact ⟨q, _, rfl, hq, b, zq⟩
  | some (some (.mk c ds)), _ =>
    obtain ⟨u, h1, q, dx, vs, rfl, b, hq, zq, _⟩ := s.cell j _ he
    rw [e] at h1; cases h1
    exact ⟨q, _, rfl, hq, b, zq⟩
end
def celOf : Rs → Option Cel
  | .fro d => some (.fro d)
  | .own ds => some (.own ds)
  | .bor _ => none
/-- name = value -/
def sSet (i : Nat) (f : FE) : FS := fun ρ => bndS ρ (f ρ) fun r => match celOf r with
  | some c => some (.nx (ρ.set i (some c)))
  | none => none
def sSeq (F G : FS) : FS := fun ρ => match F ρ with
  | some (.nx ρ') => G ρ'
  | o => o
def sNext : FS := fun ρ => some (.nx ρ)
def sRet (f : FE) : FS := fun ρ => bndS ρ (f ρ) fun r => match r with
  | .bor _ => none
  | r => some (.rt r)
/-- return of a list of one's own -/
def sRetV (i : Nat) : FS := fun ρ => match ρ[i]? with
  | some (some (.own ds)) => some (.rt (.own ds))
  | some (some (.fro d)) => some (.rt (.fro d))
  | _ => none
def sRetN : FS := fun _ => some (.rt (.fro .non))
def sExpr (f : FE) : FS := fun ρ => bndS ρ (f ρ) fun _ => some (.nx ρ)
def sIf (t : FT) (F G : FS) : FS := fun ρ => bndS ρ (t ρ) fun b => if b then F ρ else G ρ
def sBreak : FS := fun ρ => some (.bk ρ)
def sCont : FS := fun ρ => some (.ct ρ)
/-- a list of one's own is given away -/
def frzC : Option (Option Cel) → Option Cel
  | some (some (.own ds)) => some (.fro (.lst ds))
  | some (some c) => some c
  | _ => none
def sFrz (i : Nat) (F : FS) : FS := fun ρ => match ρ[i]? with
  | some (some (.own ds)) => F (ρ.set i (some (.fro (.lst ds))))
  | _ => F ρ
section
variable {X : Cx} {T : Tab} {W : WX} {st : Stmt} {rest : List Stmt} {e : Expr} {f : FE} {F G : FS} {pos : Pos}
theorem pds_set (i : Nat) {x : Str} {pos' : Pos} (hN : X.N.Nodup) (he : PD X T W e f) (hi : X.N[i]? = some x := by rfl) (hx : Loc X.env.scope x := by first | exact Or.inl rfl | exact Or.inr rfl) (hs : swapsWith e (some (.Name x pos')) pos.line X.env = pure false := by rfl)
    (hf : X.fn x = true ∨ X.env.scope.names.lookup x = some .local := by first | exact .inl rfl | exact .inr rfl) : PDS X T W (.Assign [.Name x pos'] e pos) (sSet i f) := by
  refine PS.imp (ps_set hN hi hx he hs hf) fun D σ H ⟨H0, Z0, env, Z, out, h, s, p⟩ => ?_
  refine tD_bndS h s p fun r v Z1 H1 hk e1 rr s1 => ?_
  cases r with
  | fro d =>
    cases hk
    exact p.nx _ rfl _ Z1 H1 (s1.setFro rr)
  | own ds =>
    cases hk
    obtain ⟨q, vs, rfl, b, hq, zq, rs⟩ := rr
    refine p.nx _ rfl _ Z1 H1 (s1.setOwn (ds := ds) ⟨q, vs, rfl, s.ext.hh.free b, hq, zq, rs⟩ fun j hj hσ => ?_)
    obtain ⟨q', o, e', h', _⟩ := s.ownAt hj hσ
    cases e'
    rw [h'] at b; cases b
  | bor ds => cases hk
theorem pdss_nil : PDSs X T W [] sNext := PSs.imp pss_nil fun D σ H ⟨H0, Z0, env, Z, out, h, s, p⟩ => by
  cases h
  exact p.nx _ rfl σ Z H s
theorem pdss_cons (h1 : PDS X T W st F) (h2 : PDSs X T W rest G) : PDSs X T W (st :: rest) (sSeq F G) := by
  refine PSs.imp (pss_cons h1 h2) fun D σ H ⟨H0, Z0, env, Z, out, h, s, p⟩ => ?_
  unfold sSeq at h
  split at h
  · rename_i ρ' hF
    exact ⟨H0, Z0, env, Z, _, hF, s, fun env' q σ' Z' H' s' => by cases q; exact ⟨H0, Z0, _, Z', out, h, s', p⟩, fun r q => (nomatch q), fun r q => (nomatch q), fun r q => (nomatch q), fun r _ _ q => (nomatch q)⟩
  · rename_i hne
    refine ⟨H0, Z0, env, Z, out, h, s, fun env' q σ' Z' H' s' => ?_, p.rt, p.bk, p.ct, p.xc⟩
    exact absurd h (by rw [q]; exact hne env')
theorem pdss_one (h1 : PDS X T W st F) : PDSs X T W [st] F := pss_one h1
theorem pds_pass : PDS X T W (.Pass pos) sNext := PS.imp ps_pass fun D σ H ⟨H0, Z0, env, Z, out, h, s, p⟩ => by
  cases h
  exact p.nx _ rfl σ Z H s
theorem pds_break : PDS X T W (.Break pos) sBreak := PS.imp ps_break fun D σ H ⟨H0, Z0, env, Z, out, h, s, p⟩ => by
  cases h
  exact p.bk _ rfl σ Z H s
theorem pds_cont : PDS X T W (.Continue pos) sCont := PS.imp ps_continue fun D σ H ⟨H0, Z0, env, Z, out, h, s, p⟩ => by
  cases h
  exact p.ct _ rfl σ Z H s
theorem pds_ret (he : PD X T W e f) : PDS X T W (.Return (some e) pos) (sRet f) := by
  refine PS.imp (ps_ret he) fun D σ H ⟨H0, Z0, env, Z, out, h, s, p⟩ => ?_
  refine tD_bndS h s p fun r v Z1 H1 hk e1 rr s1 => ?_
  cases r with
  | fro d => cases hk; exact p.rt _ rfl v Z1 H1 s1.ext (rr.base s.ext.hh)
  | own d => cases hk; exact p.rt _ rfl v Z1 H1 s1.ext (rr.base s.ext.hh)
  | bor d => cases hk
theorem pds_retV (i : Nat) {x : Str} {pos' : Pos} (hN : X.N[i]? = some x := by rfl) (hv : Vis X.env.scope x := by first | exact Or.inl rfl | exact Or.inr (Or.inl rfl) | exact Or.inr (Or.inr rfl)) (hd : (x == ("__debug__" : Str)) = false := by decide)
    (hcd : (x == ("__classdict__" : Str)) = false := by decide) : PDS X T W (.Return (some (.Name x pos')) pos) (sRetV i) := by
  refine PS.imp (ps_ret (pe_var hN hv hd hcd)) fun D σ H ⟨H0, Z0, env, Z, out, h, s, p⟩ => ?_
  unfold sRetV at h
  split at h
  · rename_i ds he
    cases h
    obtain ⟨v, e1, r⟩ := s.cell i _ he
    exact ⟨v, e1, p.rt _ rfl v Z H s.ext r⟩
  · rename_i ds he
    cases h
    obtain ⟨v, e1, r⟩ := s.cell i _ he
    exact ⟨v, e1, p.rt _ rfl v Z H s.ext r⟩
  · cases h
theorem pds_retN : PDS X T W (.Return none pos) sRetN := PS.imp ps_retN fun D σ H ⟨H0, Z0, env, Z, out, h, s, p⟩ => by
  cases h
  exact p.rt _ rfl _ Z H s.ext (by simp only [RRep, Rep])
theorem pds_expr (he : PD X T W e f) (hs : swapsWith e none pos.line X.env = pure false := by rfl) : PDS X T W (.Expr e pos) (sExpr f) := by
  refine PS.imp (ps_expr he hs) fun D σ H ⟨H0, Z0, env, Z, out, h, s, p⟩ => ?_
  refine tD_bndS h s p fun r v Z1 H1 hk e1 rr s1 => ?_
  cases hk
  exact p.nx _ rfl σ Z1 H1 s1
theorem pds_if {t : FT} {a b : List Stmt} (ht : PDT X T W e t) (ha : PDSs X T W a F) (hb : PDSs X T W b G) : PDS X T W (.If e a b pos) (sIf t F G) := by
  refine PS.imp (ps_if ht ha hb) fun D σ H ⟨H0, Z0, env, Z, out, h, s, p⟩ => ?_
  refine tDT_bndS h s p fun b Z1 H1 hk e1 s1 => ?_
  cases b with
  | true => exact iteT ⟨H0, Z0, env, Z1, out, hk, s1, p⟩
  | false => exact iteF ⟨H0, Z0, env, Z1, out, hk, s1, p⟩
theorem frz_of {K : PySem.W.Frag} {i : Nat} {D : Ends} {σ : St} {H : Hp} (h : tDS K T W (sFrz i F) D σ H) : tDS K T W F D σ H := by
  obtain ⟨H0, Z0, env, Z, out, h, s, p⟩ := h
  unfold sFrz at h
  split at h
  · rename_i ds he
    obtain ⟨v, e1, q, vs, rfl, b, hq, zq, rs⟩ := s.cell i _ he
    have ex := s.ext.freeze b zq hq
    have lz : Le Z (upd Z q (.lst vs)) := Le.upd zq
    have hl : i < env.length := (List.getElem?_eq_some_iff.mp he).1
    have oi : isOwnC env[i]? := by rw [he]; exact True.intro
    refine ⟨H0, Z0, _, upd Z q (.lst vs), out, h, ⟨ex, by simp [s.len], fun j c hj => ?_, fun j k u hjk h1 h2 h3 h4 => ?_, fun j c' ds' v' hj h' => ?_⟩, p⟩
    rotate_right 1
    · by_cases e : i = j
      · subst e
        rw [List.getElem?_set_self hl] at hj; cases hj
      · rw [List.getElem?_set_ne e] at hj; exact s.me j _ _ _ hj h'
    · by_cases e : i = j
      · subst e
        rw [List.getElem?_set_self hl] at hj
        cases hj
        refine ⟨_, e1, ?_⟩
        show Rep K T _ (.lst ds) _
        simp only [Rep]
        exact ⟨q, vs, rfl, .of upd_same, rs.mono lz⟩
      · rw [List.getElem?_set_ne e] at hj
        obtain ⟨u, h1, h2⟩ := s.cell j c hj
        refine ⟨u, h1, ?_⟩
        cases c with
        | fro d => exact Rep.mono lz h2
        | own es =>
          obtain ⟨q2, ws, rfl, b2, hq2, zq2, rs2⟩ := h2
          have ne : q2 ≠ q := fun z => by
            subst z
            exact s.sep i j _ e oi (by rw [hj]; exact True.intro) e1 h1
          exact ⟨q2, ws, rfl, b2, hq2, by rw [upd_ne ne]; exact zq2, rs2.mono lz⟩
        | mk c es =>
          obtain ⟨q2, dx, ws, rfl, b2, hq2, zq2, rs2⟩ := h2
          have ne : q2 ≠ q := fun z => by
            subst z
            exact s.sep i j _ e oi (by rw [hj]; exact True.intro) e1 h1
          exact ⟨q2, dx, ws, rfl, b2, hq2, by rw [upd_ne ne]; exact zq2, rs2.mono lz⟩
    · have nf : ∀ m : Nat, isOwnC ((env.set i (some (.fro (.lst ds))))[m]?) → isOwnC env[m]? := fun m hm => by
        by_cases z : i = m
        · subst z; exact oi
        · rw [List.getElem?_set_ne z] at hm; exact hm
      exact s.sep j k u hjk (nf j h1) (nf k h2) h3 h4
  · exact ⟨H0, Z0, env, Z, out, h, s, p⟩
/-- ahead of a statement the list at a place is given away -/
theorem pds_frz (i : Nat) (h : PDS X T W st F) : PDS X T W st (sFrz i F) := PS.imp h fun _ _ _ q => frz_of q
theorem pdss_frz (i : Nat) {sts : List Stmt} (h : PDSs X T W sts F) : PDSs X T W sts (sFrz i F) := PSs.imp h fun _ _ _ q => frz_of q
end

/-! ### a def's promise -/
abbrev Fn := List Dt → M Rs
def spD (K : PySem.W.Frag) (T : Tab) (f : Fn) : Sp := fun vs H Q E => ∃ Z ds out, Le Z H ∧ Reps K T Z ds vs ∧ f ds = some out ∧
  (∀ r, out = .ok r → ∀ v Z' H', Ext4 Z H Z' H' → RRep K T H Z' H' v r → Q v H') ∧
  (∀ c es, out = .ex c es → ∀ cls d Z' H', Ext4 Z H Z' H' → XRep K T Z' H' cls d c es → E cls d H')
/-- what a body gives back -/
def outR : Option Out → M Rs
  | some (.rt r) => some (.ok r)
  | some (.nx _) => some (.ok (.fro .non))
  | some (.xc c ds _) => some (.ex c ds)
  | _ => none
/-- np parameters, nl other names -/
def fnD (np nl : Nat) (F : FS) : Fn := fun args => if args.length = np then outR (F (args.map (fun d => some (.fro d)) ++ List.replicate nl none)) else none
theorem fnD_len {np nl : Nat} {F : FS} {ds : List Dt} {out : Ex Rs} (h : fnD np nl F ds = some out) : ds.length = np := by
  unfold fnD at h
  split at h
  · assumption
  · cases h
section
variable {K : PySem.W.Frag} {T : Tab}
theorem SI.start {Z H : Hp} {ds : List Dt} {vs : List V} {N : List Str} {nl : Nat} (zh : Le Z H) (r : Reps K T Z ds vs) (hn : N.length = ds.length + nl) : SI K T H (Z, 0) (ds.map (fun d => some (.fro d)) ++ List.replicate nl none) (start N vs) Z H := by
  have hl := r.length
  have cellq : ∀ (i : Nat) (c : Cel), (ds.map (fun d => some (Cel.fro d)) ++ List.replicate nl none)[i]? = some (some c) → ∃ d, c = .fro d ∧ ds[i]? = some d := fun i c h => by
    by_cases hi : i < ds.length
    · rw [List.getElem?_append_left (by simpa using hi), List.getElem?_map] at h
      cases e : ds[i]? with
      | none => rw [e] at h; cases h
      | some d => rw [e] at h; cases h; exact ⟨d, rfl, rfl⟩
    · rw [List.getElem?_append_right (by simpa using hi), List.getElem?_replicate] at h
      split at h <;> cases h
  refine ⟨Ext4.refl zh, ?_, fun i c h => ?_, fun i j v _ h1 _ _ _ => ?_, fun i c ds' v h _ => ?_⟩
  rotate_right 1
  · obtain ⟨d, e, _⟩ := cellq i _ h; cases e
  · unfold L2.start
    simp only [List.length_append, List.length_map, List.length_replicate]
    omega
  · obtain ⟨d, rfl, e⟩ := cellq i c h
    obtain ⟨v, h1, h2⟩ := r.get e
    refine ⟨v, ?_, h2⟩
    unfold L2.start
    have hi : i < vs.length := (List.getElem?_eq_some_iff.mp h1).1
    rw [List.getElem?_append_left (by simpa using hi), List.getElem?_map, h1]
    rfl
  · generalize hx : (ds.map (fun d => some (Cel.fro d)) ++ List.replicate nl none)[i]? = x at h1
    match x, h1 with
    | some (some (.own es)), _ => obtain ⟨d, e, _⟩ := cellq i _ hx; cases e
    | some (some (.mk c es)), _ => obtain ⟨d, e, _⟩ := cellq i _ hx; cases e
theorem spD_len {f : Fn} {n : Nat} (hn : ∀ ds out, f ds = some out → ds.length = n) : ∀ vs H Q E, spD K T f vs H Q E → vs.length = n := fun vs H Q E h => by
  obtain ⟨Z, ds, out, zh, r, hf, _⟩ := h
  rw [r.length]
  exact hn _ _ hf
/-- the body's reading follows from the promise -/
theorem body_of {np nl : Nat} {F : FS} {N : List Str} {vs : List V} {H : Hp} {Q : VK} {E : XK} (hN : N.length = np + nl) (h : spD K T (fnD np nl F) vs H Q E) : tDS K T (fun cls d _ H => E cls d H) F { nx := fun _ H' => Q .non H', rt := Q } (start N vs) H := by
  obtain ⟨Z, ds, out, zh, r, hf, ok, ex⟩ := h
  have hl := fnD_len hf
  unfold fnD at hf
  rw [if_pos hl] at hf
  have s := SI.start (K := K) (T := T) (N := N) (nl := nl) zh r (by rw [hl]; exact hN)
  generalize hF : F (ds.map (fun d => some (.fro d)) ++ List.replicate nl none) = fo at hf
  match fo, hf with
  | some (.rt r), hf =>
    cases hf
    exact ⟨H, (Z, 0), _, Z, _, hF, s, fun _ q => (nomatch q), fun r' q v Z' H' e rr => by cases q; exact ok _ rfl v Z' H' e rr, fun _ q => (nomatch q), fun _ q => (nomatch q), fun _ _ _ q => (nomatch q)⟩
  | some (.nx ρ), hf =>
    cases hf
    exact ⟨H, (Z, 0), _, Z, _, hF, s, fun env' q σ' Z' H' s' => ok _ rfl _ Z' H' s'.ext (by simp only [RRep, Rep]), fun _ q => (nomatch q), fun _ q => (nomatch q), fun _ q => (nomatch q), fun _ _ _ q => (nomatch q)⟩
  | some (.xc c es ρ), hf =>
    cases hf
    exact ⟨H, (Z, 0), _, Z, _, hF, s, fun _ q => (nomatch q), fun _ q => (nomatch q), fun _ q => (nomatch q), fun _ q => (nomatch q), fun c' ds' env' q cls d σ' Z' H' s' x => by cases q; exact ex _ _ rfl cls d Z' H' s'.ext x⟩
  | some (.bk ρ), hf => cases hf
  | some (.ct ρ), hf => cases hf
  | none, hf => cases hf
/-- THE RULE: a def of the text and its plain function -/
theorem fnOk_of {P : Program} {w : World} {mg : Str → Option Value} {base : Heap} {x qual : Str} {params : Arguments} {body : List Stmt} {scope : Scope} {dvs : List V} {kws : List (Str × V)} {f : Addr} {fd : FuncData} {N ps : List Str} {k np nl : Nat} {F : FS}
    (Fd : FunD K x qual params body scope dvs kws f fd) (S : FnScope N ps scope) (hp : ps.length = np := by rfl) (hN : N.length = np + nl := by rfl)
    (hbody : ∀ (cdv : Value) (A : Around) (outer : List Env) (s : Shared) (H : Hp) (E : XK), Room k (A.deeper (envOfC qual scope s.heap.objs.size f cdv)) →
      Takes (cxOf (L2.CX P w) P w K mg base N qual scope f cdv A outer s H E) (fun cls d _ H => E cls d H) →
      PDSs (cxOf (L2.CX P w) P w K mg base N qual scope f cdv A outer s H E) T (fun cls d _ H => E cls d H) body F) : FnOk P w K mg base (L2.CX P w) (k + 1) f fd ps (spD K T (fnD np nl F)) := by
  refine Fd.ok S (fun vs H Q E h => (spD_len (fun _ _ => fnD_len) vs H Q E h).trans hp.symm) fun cdv A outer s H vs Q E hr h => ⟨_, hbody cdv A outer s H E hr (takes_of rfl rfl rfl rfl), body_of hN h⟩
end
end Pd

set_option maxHeartbeats 2000000
/-! PdC: arguments, calls of defs, classes made, fields, methods, properties, own operators. -/
namespace Pd
open PySem PySem.Spec L2
open PyProof.Rows (envOfC)

/-! ### arguments -/
abbrev FA := PEnv → M (List Dt)
structure PostA (K : PySem.W.Frag) (T : Tab) (Z H : Hp) (σ : St) (W : WX) (Q : List V → Hp → Prop) (out : Ex (List Dt)) : Prop where
  ok : ∀ ds, out = .ok ds → ∀ vs Z' H', Ext4 Z H Z' H' → Reps K T Z' ds vs → Q vs H'
  ex : ∀ c ds, out = .ex c ds → ∀ cls d Z' H', Ext4 Z H Z' H' → XRep K T Z' H' cls d c ds → W cls d σ H'
def tDA (K : PySem.W.Frag) (T : Tab) (W : WX) (f : FA) : TA := fun σ H Q =>
  ∃ H0 Z0 env Z out, f env = some out ∧ SI K T H0 Z0 env σ Z H ∧ PostA K T Z H σ W Q out
abbrev PDA (X : Cx) (T : Tab) (W : WX) (es : List Expr) (f : FA) : Prop := PA X es (tDA X.K T W f)
abbrev PDK (X : Cx) (T : Tab) (W : WX) (es : List Keyword) (f : FA) : Prop := PK X es (tDA X.K T W f)
theorem PA.imp {X : Cx} {e : List Expr} {t t' : TA} (h : PA X e t) (i : ∀ σ H Q, t' σ H Q → t σ H Q) : PA X e t' := ⟨fun pos pins s σ H Q I q => h.run pos pins s σ H Q I (i σ H Q q)⟩
theorem PK.imp {X : Cx} {e : List Keyword} {t t' : TA} (h : PK X e t) (i : ∀ σ H Q, t' σ H Q → t σ H Q) : PK X e t' := ⟨fun pos pins s σ H Q I q => h.run pos pins s σ H Q I (i σ H Q q)⟩
def aNil : FA := fun _ => some (.ok [])
def aCons (f : FE) (fs : FA) : FA := fun ρ => bnd (f ρ) fun r => bnd (frz r) fun d => bnd (fs ρ) fun ds => some (.ok (d :: ds))
section
variable {X : Cx} {T : Tab} {W : WX} {e : Expr} {es : List Expr} {f : FE} {fs : FA}
theorem tCons_of {K : PySem.W.Frag} {σ : St} {H : Hp} {Q : List V → Hp → Prop} (h : tDA K T W (aCons f fs) σ H Q) : tCons (tD K T W f) (tDA K T W fs) σ H Q := by
  obtain ⟨H0, Z0, env, Z, out, h, s, p⟩ := h
  rcases bnd_cases h with ⟨c, ds, e1, e2⟩ | ⟨r, e1, e2⟩
  · exact ⟨H0, Z0, env, Z, _, e1, s, fun r q => (nomatch q), fun c' ds' q cls d Z' H' e x => by cases q; exact p.ex _ _ e2 cls d Z' H' e x⟩
  · refine ⟨H0, Z0, env, Z, _, e1, s, fun r' q v Z1 H1 x1 rr => ?_, fun c' ds' q => (nomatch q)⟩
    cases q
    rcases bnd_cases e2 with ⟨c, ds, q1, q2⟩ | ⟨d, q1, q2⟩
    · cases r <;> cases q1
    · obtain ⟨Z2, x2, _, rd⟩ := rr.freeze q1 x1
      rcases bnd_cases q2 with ⟨c, ds, q3, q4⟩ | ⟨ds, q3, q4⟩
      · exact ⟨H0, Z0, env, Z2, _, q3, s.step x2, fun r q => (nomatch q), fun c' ds' q cls d Z' H' e x => by cases q; exact p.ex _ _ q4 cls d Z' H' (x2.trans e) x⟩
      · refine ⟨H0, Z0, env, Z2, _, q3, s.step x2, fun ds' q vs Z' H' x3 rs => ?_, fun c' ds' q => (nomatch q)⟩
        cases q
        cases q4
        exact p.ok _ rfl _ Z' H' (x2.trans x3) (.cons (rd.mono x3.zz) rs)
theorem tNil_of {K : PySem.W.Frag} {σ : St} {H : Hp} {Q : List V → Hp → Prop} (h : tDA K T W aNil σ H Q) : tNil σ H Q := by
  obtain ⟨H0, Z0, env, Z, out, h, s, p⟩ := h
  cases h
  exact p.ok _ rfl [] Z H (Ext4.refl s.zh) .nil
theorem pda_nil : PDA X T W [] aNil := PA.imp pa_nil fun _ _ _ h => tNil_of h
theorem pda_cons (h : PD X T W e f) (t : PDA X T W es fs) (hs : starEach (e :: es) X.env = (false, eval e X.env) :: starEach es X.env := by rfl) : PDA X T W (e :: es) (aCons f fs) := PA.imp (pa_cons h t hs) fun _ _ _ h => tCons_of h
theorem pdk_nil : PDK X T W [] aNil := PK.imp pk_nil fun _ _ _ h => tNil_of h
theorem pdk_cons {nm : Option Str} {kpos : Pos} {kws : List Keyword} (h : PD X T W e f) (t : PDK X T W kws fs) : PDK X T W (⟨nm, e, kpos⟩ :: kws) (aCons f fs) := PK.imp (pk_cons h t) fun _ _ _ h => tCons_of h
end

/-! ### a value that is called -/
def CallV (X : Cx) (T : Tab) (W : WX) (f : Value) (n : Nat) (ks : List Str) (fn : List Dt → List Dt → M Rs) : Prop :=
  ∀ (pins : List (Addr × Obj)) (s : Shared) (σ : St) (H Z : Hp) (us ws : List Value) (vs zs : List V) (ds es : List Dt) (out : Ex Rs) (Q : VK), Inv X pins σ H s → Le Z H → Vals vs us → Vals zs ws → Reps X.K T Z ds vs → Reps X.K T Z es zs →
    ds.length = n → es.length = ks.length → fn ds es = some out → Post X.K T Z H σ W Q out → wpAny (model X.prog X.w) X.A (call f us (ks.zip ws)) (EP X pins σ Q) X.xe s
/-- how arguments lie: gD of the positional and the keywords' data is the parameters' data -/
structure Conv (K : PySem.W.Frag) (T : Tab) (fd : FuncData) (ps : List Str) (n : Nat) (ks : List Str) (gD : List Dt → List Dt → List Dt) : Prop where
  ex : ∃ g gV, KBn K fd ps n ks g gV ∧ ∀ (Z : Hp) ds vs es zs, ds.length = n → es.length = ks.length → Reps K T Z ds vs → Reps K T Z es zs → Reps K T Z (gD ds es) (gV vs zs)
section
variable {X : Cx} {T : Tab} {W : WX} {k n : Nat} {f : Addr} {fd : FuncData} {ps ks : List Str} {fn : Fn} {gD : List Dt → List Dt → List Dt}
theorem callV_fn (F : FnOk X.prog X.w X.K X.mg X.base (L2.CX X.prog X.w) k f fd ps (spD X.K T fn)) (hr : Room k X.A) (hb : Conv X.K T fd ps n ks gD) (tk : Takes X W) : CallV X T W (.ref f) n ks fun ds es => fn (gD ds es) := by
  intro pins s σ H Z us ws vs zs ds es out Q I zh ru rw' rd re l1 l2 hf p
  obtain ⟨g, gV, B, G⟩ := hb.ex
  have r2 := G Z ds vs es zs l1 l2 rd re
  have hsp : spD X.K T fn (gV vs zs) H Q (WE W σ) := ⟨Z, gD ds es, out, zh, r2, hf, p.ok, fun c es' e cls d Z' H' x xr => p.ex c es' e cls d Z' H' x xr⟩
  have v2 := B.rel ru rw'
  have e1 : us.length = n := by rw [← ru.length, rd.length]; exact l1
  have e2 : ws.length = ks.length := by rw [← rw'.length, re.length]; exact l2
  refine wpAny_call (codeAny_mono (F.run X.A X.stack s H ⟨us, ks.zip ws⟩ (g us ws) (gV vs zs) Q (WE W σ) hr I.env0 (B.to s us ws I.kIn e1 e2) v2 hsp) fun r s' hq => ?_)
  cases r with
  | error e => exact passAt tk σ pins H s e s' I hq
  | ok fl =>
    cases fl with
    | ret u => exact I.after hq
    | next => exact False.elim hq
    | brk => exact False.elim hq
    | cont => exact False.elim hq
end

/-! ### classes -/
/-- what a class of the table must have -/
structure ClsD (K : PySem.W.Frag) (T : Tab) (c : Nat) : Prop where
  cls : Cls K (T.ca c)
  no : ∀ f ∈ T.fl c, NoAttr K (T.ca c) f
  nd : (T.fl c).Nodup
  sz : (T.fl c).length < 1000
/-- fields and their values, from the arguments -/
abbrev FI := List Dt → M (List Dt)
def mkD (c : Nat) (f : FI) : Fn := fun ds => bnd (f ds) fun fs => some (.ok (.fro (.ins c fs)))
/-- the promise of an __init__ -/
def spI (K : PySem.W.Frag) (T : Tab) (c : Nat) (f : FI) : Sp := fun vs H Q E => ∃ x dx as ds Z H00 out, vs = .ref x :: as ∧ H = upd (upd H00 dx (.own x)) x (.ins (T.ca c) dx []) ∧ H00 x = none ∧ H00 dx = none ∧ dx ≠ x ∧ Le Z H00 ∧ Reps K T Z ds as ∧ f ds = some out ∧
  (∀ fs, out = .ok fs → ∀ Z' H', Ext4 Z H00 Z' H' → Rep K T Z' (.ins c fs) (.ref x) → Q .non H') ∧
  (∀ c es, out = .ex c es → ∀ cls d Z' H', Ext4 Z H00 Z' H' → XRep K T Z' H' cls d c es → E cls d H')
theorem putF_zip {f : Str} {y : V} : ∀ {ns : List Str} {vs : List V}, ns.Nodup → ns[vs.length]? = some f → putF f y (ns.zip vs) = ns.zip (vs ++ [y])
  | [], vs, _, h => by simp at h
  | n :: ns, [], nd, h => by
    simp only [List.length_nil, List.getElem?_cons_zero, Option.some.injEq] at h
    subst h
    simp [putF]
  | n :: ns, v :: vs, nd, h => by
    have h' : ns[vs.length]? = some f := by simpa using h
    have ne : n ≠ f := fun e => (List.nodup_cons.mp nd).1 (e ▸ List.mem_of_getElem? h')
    rw [List.zip_cons_cons]
    show (if n = f then _ else (n, v) :: putF f y (ns.zip vs)) = _
    rw [if_neg ne, putF_zip (List.nodup_cons.mp nd).2 h', List.cons_append, List.zip_cons_cons]
theorem lookup_zip {f : Str} {v : V} : ∀ {ns : List Str} {vs : List V} {j : Nat}, ns.Nodup → ns[j]? = some f → vs[j]? = some v → (ns.zip vs).lookup f = some v
  | [], _, _, _, h, _ => by simp at h
  | _ :: _, [], _, _, _, h => by simp at h
  | n :: ns, w :: vs, 0, _, h1, h2 => by
    simp only [List.getElem?_cons_zero, Option.some.injEq] at h1 h2
    subst h1 h2
    simp [List.lookup]
  | n :: ns, w :: vs, j + 1, nd, h1, h2 => by
    have h1' : ns[j]? = some f := by simpa using h1
    have ne : f ≠ n := fun e => (List.nodup_cons.mp nd).1 (e ▸ List.mem_of_getElem? h1')
    rw [List.zip_cons_cons]
    have hb : (f == n) = false := beq_eq_false_iff_ne.mpr ne
    simp only [List.lookup, hb]
    exact lookup_zip (List.nodup_cons.mp nd).2 h1' (by simpa using h2)
theorem lookup_no {f : Str} : ∀ {ns : List Str} {vs : List V}, f ∉ ns → (ns.zip vs).lookup f = none
  | [], _, _ => rfl
  | _ :: _, [], _ => rfl
  | n :: ns, w :: vs, h => by
    have ne : f ≠ n := fun e => h (by simp [e])
    have hb : (f == n) = false := beq_eq_false_iff_ne.mpr ne
    rw [List.zip_cons_cons]
    simp only [List.lookup, hb]
    exact lookup_no fun z => h (List.mem_cons_of_mem _ z)
section
variable {X : Cx} {T : Tab} {W : WX} {k n c : Nat} {f : Addr} {fd : FuncData} {ps ks : List Str} {fi : FI} {gD : List Dt → List Dt → List Dt}
/-- how the arguments of C(..) lie: self ahead -/
structure ConvI (K : PySem.W.Frag) (T : Tab) (fd : FuncData) (ps : List Str) (n : Nat) (ks : List Str) (gD : List Dt → List Dt → List Dt) : Prop where
  ex : ∃ g gV, KBn K fd ps (n + 1) ks g gV ∧ ∀ (Z : Hp) x ds vs es zs, ds.length = n → es.length = ks.length → Reps K T Z ds vs → Reps K T Z es zs → ∃ as, gV (.ref x :: vs) zs = .ref x :: as ∧ Reps K T Z (gD ds es) as
theorem callV_make (M : Mk X.K (T.ca c) f) (F : FnOk X.prog X.w X.K X.mg X.base (L2.CX X.prog X.w) k f fd ps (spI X.K T c fi)) (hr : Room (k + 1) X.A) (hb : ConvI X.K T fd ps n ks gD) (tk : Takes X W) :
    CallV X T W (.ref (T.ca c)) n ks fun ds es => mkD c fi (gD ds es) := by
  intro pins s σ H Z us ws vs zs ds es out Q I zh ru rw' rd re l1 l2 hf p
  obtain ⟨g, gV, B, G⟩ := hb.ex
  have e1 : us.length = n := by rw [← ru.length, rd.length]; exact l1
  have e2 : ws.length = ks.length := by rw [← rw'.length, re.length]; exact l2
  obtain ⟨as, ga, ra⟩ := G Z (s.heap.objs.size + 1) ds vs es zs l1 l2 rd re
  have I2 := Inv.made (C := T.ca c) I
  have r1 : Vals (V.ref (s.heap.objs.size + 1) :: vs) (Value.ref (s.heap.objs.size + 1) :: us) := .cons rfl ru
  have r2 := B.rel r1 rw'
  have f1 : H (s.heap.objs.size + 1) = none := I.hok.fresh (Nat.le_succ _)
  have f2 : H s.heap.objs.size = none := I.hok.fresh (Nat.le_refl _)
  have hsp : spI X.K T c fi (gV (.ref (s.heap.objs.size + 1) :: vs) zs) (upd (upd H s.heap.objs.size (.own (s.heap.objs.size + 1))) (s.heap.objs.size + 1) (.ins (T.ca c) s.heap.objs.size [])) (fun v H' => v = .non ∧ Q (.ref (s.heap.objs.size + 1)) H') (WE W σ) := by
    unfold mkD at hf
    rcases bnd_cases hf with ⟨c', ds', q1, q2⟩ | ⟨fs, q1, q2⟩
    · exact ⟨_, _, as, gD ds es, Z, H, _, ga, rfl, f1, f2, Nat.ne_of_lt (Nat.lt_succ_self _), zh, ra, q1, fun fs q => (nomatch q), fun c2 es2 q cls d Z' H' x xr => by cases q; exact p.ex _ _ q2 cls d Z' H' x xr⟩
    · refine ⟨_, _, as, gD ds es, Z, H, _, ga, rfl, f1, f2, Nat.ne_of_lt (Nat.lt_succ_self _), zh, ra, q1, fun fs' q Z' H' x xr => ?_, fun c2 es2 q => (nomatch q)⟩
      cases q
      cases q2
      exact ⟨rfl, p.ok _ rfl _ Z' H' x xr⟩
  refine wpAny_call (make_map (f := f) I.kIn M.makes M.init (beq_iff_eq.mp M.fn) (codeAny_mono (F.run _ X.stack _ _ ⟨Value.ref (s.heap.objs.size + 1) :: us, ks.zip ws⟩ (g (Value.ref (s.heap.objs.size + 1) :: us) ws) _ _ (WE W σ) (hr.make (T.ca c) us (ks.zip ws))
    (I2.env0.make (T.ca c) us (ks.zip ws)) (B.to _ (Value.ref (s.heap.objs.size + 1) :: us) ws I2.kIn (by rw [List.length_cons, e1]) e2) r2 hsp) fun r s' hq' => ?_))
  cases r with
  | error e => exact passAt tk σ pins _ _ e s' I2 hq'
  | ok fl =>
    cases fl with
    | ret u =>
      obtain ⟨v, H', I3, rv, ev, q3⟩ := I2.after hq'
      subst ev
      exact ⟨rv, ⟨V.ref (s.heap.objs.size + 1), H', I3, rfl, q3⟩⟩
    | next => exact False.elim hq'
    | brk => exact False.elim hq'
    | cont => exact False.elim hq'
end

/-! ### f(..) of a module's name -/
def eCall (n m : Nat) (fn : List Dt → List Dt → M Rs) (fa fk : FA) : FE := fun ρ => bnd (fa ρ) fun ds => bnd (fk ρ) fun es => if ds.length = n ∧ es.length = m then fn ds es else none
section
variable {X : Cx} {T : Tab} {W : WX} {n : Nat} {f : Addr} {ks : List Str} {fn : List Dt → List Dt → M Rs} {x : Str} {p pos : Pos} {e : Expr} {es : List Expr} {kws : List Keyword} {fa fk : FA}
/-- the arguments run, then the call -/
theorem args_run {pins : List (Addr × Obj)} {s : Shared} {σ : St} {H : Hp} {Q : VK} {C : Value} (hc : CallV X T W C n ks fn) (I : Inv X pins σ H s) (h : tD X.K T W (eCall n ks.length fn fa fk) σ H Q) :
    tDA X.K T W fa σ H fun vs H1 => tDA X.K T W fk σ H1 fun zs H2 => ∀ (s2 : Shared) (us ws : List Value), Inv X pins σ H2 s2 → Vals vs us → Vals zs ws → wpAny (model X.prog X.w) X.A (call C us (ks.zip ws)) (EP X pins σ Q) X.xe s2 := by
  obtain ⟨H0, Z0, env, Z, out, h, s0, po⟩ := h
  unfold eCall at h
  rcases bnd_cases h with ⟨c, ds, e1, e2⟩ | ⟨ds, e1, e2⟩
  · exact ⟨H0, Z0, env, Z, _, e1, s0, fun r q => (nomatch q), fun c' ds' q cls d Z' H' e x => by cases q; exact po.ex _ _ e2 cls d Z' H' e x⟩
  · refine ⟨H0, Z0, env, Z, _, e1, s0, fun ds' q vs Z1 H1 x1 rs => ?_, fun c' ds' q => (nomatch q)⟩
    cases q
    rcases bnd_cases e2 with ⟨c, es', e3, e4⟩ | ⟨es', e3, e4⟩
    · exact ⟨H0, Z0, env, Z1, _, e3, s0.step x1, fun r q => (nomatch q), fun c' ds' q cls d Z' H' e x => by cases q; exact po.ex _ _ e4 cls d Z' H' (x1.trans e) x⟩
    · refine ⟨H0, Z0, env, Z1, _, e3, s0.step x1, fun ds' q zs Z2 H2 x2 re s2 us ws I2 ru rw' => ?_, fun c' ds' q => (nomatch q)⟩
      cases q
      split at e4
      · rename_i hl
        exact hc pins s2 σ H2 Z2 us ws vs zs ds es' out Q I2 x2.zh ru rw' (rs.mono x2.zz) re hl.1 hl.2 e4 (po.step (x1.trans x2))
      · cases e4
theorem pd_callV {u : Addr} (hc : CallV X T W (.ref u) n [] fn) (hk : PySem.W.keepIn X.K (.ref u) = true) (hg : Gl X x) (hm : X.mg x = some (.ref u)) (ha : PDA X T W (e :: es) fa)
    (hdb : (x == ("__debug__" : Str)) = false := by decide) (he : starEach (e :: es) X.env = (false, eval e X.env) :: starEach es X.env := by rfl) (hpl : (backTo pos (starEach es X.env)).any (·.1) = false := by rfl) :
    PD X T W (.Call (.Name x p) (e :: es) [] pos) (eCall n 0 fn fa aNil) := by
  refine ⟨fun pins s σ H Q I h => ?_⟩
  refine wpAny_Call_Name_kw (ld_glob I hg hm ?_ hdb)
  refine PySem.W.callWith_K (h₀ := X.base) I.ok.mod.kin hk (thn (ha.run pos pins s σ H _ I (args_run hc I h)) fun us s1 ⟨vs, H1, I1, r, q⟩ => ⟨I1.kIn, ?_⟩) he hpl
  exact tNil_of q s1 us [] I1 r .nil
theorem pd_callV0 {u : Addr} (hc : CallV X T W (.ref u) n [] fn) (hk : PySem.W.keepIn X.K (.ref u) = true) (hg : Gl X x) (hm : X.mg x = some (.ref u)) (hdb : (x == ("__debug__" : Str)) = false := by decide) :
    PD X T W (.Call (.Name x p) [] [] pos) (eCall n 0 fn aNil aNil) := by
  refine ⟨fun pins s σ H Q I h => ?_⟩
  refine wpAny_Call_Name_kw (ld_glob I hg hm ?_ hdb)
  exact PySem.W.callWith_K0 I.kIn hk (tNil_of (tNil_of (args_run hc I h)) s [] [] I .nil .nil)
theorem pd_callVk {u : Addr} (hc : CallV X T W (.ref u) n ks fn) (hk : PySem.W.keepIn X.K (.ref u) = true) (hg : Gl X x) (hm : X.mg x = some (.ref u)) (ha : PDA X T W (e :: es) fa) (hkw : PDK X T W kws fk)
    (hall : (backToKw pos (keywordEach kws X.env)).all (·.1.isSome) = true := by rfl) (hks : (backToKw pos (keywordEach kws X.env)).filterMap (·.1) = ks := by rfl)
    (hdb : (x == ("__debug__" : Str)) = false := by decide) (he : starEach (e :: es) X.env = (false, eval e X.env) :: starEach es X.env := by rfl)
    (hpl : ((backTo pos (starEach (e :: es) X.env)).any (·.1) || (backToKw pos (keywordEach kws X.env)).any (·.1.isNone)) = false := by rfl) :
    PD X T W (.Call (.Name x p) (e :: es) kws pos) (eCall n ks.length fn fa fk) := by
  refine ⟨fun pins s σ H Q I h => ?_⟩
  refine wpAny_Call_Name_kw (ld_glob I hg hm ?_ hdb)
  refine PySem.W.callWith_KW (h₀ := X.base) I.ok.mod.kin hk hall (thn (ha.run pos pins s σ H _ I (args_run hc I h)) fun us s1 ⟨vs, H1, I1, r, q⟩ => ?_) hpl he
  refine thn (hkw.run pos pins s1 σ H1 _ I1 q) fun ws s2 ⟨zs, H2, I2, rz, q2⟩ => ⟨I2.kIn, ?_⟩
  rw [hks]
  exact q2 s2 us ws I2 r rz
end

/-! ### fields -/
/-- the place of a field, by class -/
def eFld (m : Nat → Option Nat) (f : FE) : FE := e1 (fun r => match r with
  | .fro (.ins c ds) => match m c with
    | some j => match ds[j]? with
      | some d => some (.ok (.fro d))
      | none => none
    | none => none
  | _ => none) f
def gFld (m : Nat → Option Nat) : G1 := fun r => match r with
  | .fro (.ins c ds) => match m c with
    | some j => match ds[j]? with
      | some d => some (.ok (.fro d))
      | none => none
    | none => none
  | _ => none
section
variable {X : Cx} {T : Tab} {W : WX} {e o : Expr} {fa fb : FE} {f : Str} {pos pos' : Pos}
theorem pd_fld (m : Nat → Option Nat) (hm : ∀ c j, m c = some j → ClsD X.K T c ∧ (T.fl c)[j]? = some f) (he : PD X T W e fa) (hb : attributeBase e f X.env (eval e X.env) = eval e X.env := by rfl) : PD X T W (.Attribute e f pos) (e1 (gFld m) fa) := by
  refine PE.imp (pe_fld he hb) fun σ H Q ⟨H0, Z0, env, Z, out, h, s, p⟩ => ?_
  refine tD_bnd h s p fun r v Z1 H1 hk e1 rr s1 p1 => ?_
  unfold gFld at hk
  split at hk
  · split at hk
    · rename_i c ds j hj
      split at hk
      · rename_i d hd
        cases hk
        obtain ⟨C, hf⟩ := hm _ _ hj
        simp only [RRep, Rep] at rr
        obtain ⟨q, dx, vs, rfl, h1, h2, h3⟩ := rr
        obtain ⟨w, h4, h5⟩ := h3.get hd
        exact ⟨q, _, dx, _, w, rfl, e1.zh _ _ h1, C.cls, C.no _ (List.mem_of_getElem? hf), lookup_zip C.nd hf h4, p1.fro e1.zh h5⟩
      · cases hk
    · cases hk
  · cases hk
/-- self.f = value, self the instance that is being made, at place i; j fields stand -/
def sFld (i c j : Nat) (f : FE) : FS := fun ρ => bndS ρ (f ρ) fun r => bndS ρ (frz r) fun d => match ρ[i]? with
  | some (some (.mk c' ds)) => if c' = c ∧ ds.length = j then some (.nx (ρ.set i (some (.mk c (ds ++ [d]))))) else none
  | _ => none
theorem pds_fld {i c j : Nat} {x : Str} {xp : Pos} (C : ClsD X.K T c) (hj : (T.fl c)[j]? = some f) (hv : PD X T W e fa) (hN : X.N[i]? = some x := by rfl) (hvis : Vis X.env.scope x := by first | exact Or.inl rfl | exact Or.inr (Or.inl rfl) | exact Or.inr (Or.inr rfl))
    (hd : (x == ("__debug__" : Str)) = false := by decide) (hcd : (x == ("__classdict__" : Str)) = false := by decide) (hs : swapsWith e (some (.Attribute (.Name x xp) f pos')) pos.line X.env = pure false := by rfl) :
    PDS X T W (.Assign [.Attribute (.Name x xp) f pos'] e pos) (sFld i c j fa) := by
  refine PS.imp (ps_fld (pe_var hN hvis hd hcd) hv hs) fun D σ H ⟨H0, Z0, env, Z, out, h, s, p⟩ => ?_
  refine tD_bndSF h s p fun d v Z1 H1 hk e1 rd s1 => ?_
  split at hk
  · rename_i c' ds he
    split at hk
    · rename_i hc
      obtain ⟨rfl, hl⟩ := hc
      cases hk
      obtain ⟨w, h1, q, dx, vs, rfl, b, hq, zq, rs⟩ := s1.cell i _ he
      have lv : vs.length = j := by rw [rs.length]; exact hl
      refine ⟨_, h1, q, _, dx, _, rfl, hq, C.cls, C.no _ (List.mem_of_getElem? hj), Nat.lt_of_le_of_lt (by rw [List.length_zip]; exact Nat.min_le_left _ _) C.sz, ?_⟩
      rw [putF_zip C.nd (by rw [lv]; exact hj)]
      have e2 : Ext4 H0 H0 H0 H0 := Ext4.refl (Le.refl _)
      have oi : isOwnC env[i]? := by rw [he]; exact True.intro
      have hl2 : i < env.length := (List.getElem?_eq_some_iff.mp he).1
      refine p.nx _ rfl _ Z1 _ ⟨⟨fun a o h => ?_, s1.ext.zz, fun a o h => ?_, s1.ext.st⟩, by simp [s1.len], fun m cl hm' => ?_, fun m k u hmk a1 a2 a3 a4 => ?_, fun m c2 ds2 v2 hm' h' => ?_⟩
      rotate_right 1
      · by_cases z : i = m
        · subst z
          exact s1.me i _ _ _ he h'
        · rw [List.getElem?_set_ne z] at hm'; exact s1.me m _ _ _ hm' h'
      · have ne : a ≠ q := fun z => by subst z; rw [b] at h; cases h
        rw [upd_ne ne]; exact s1.ext.hh _ _ h
      · have ne : a ≠ q := fun z => by subst z; rw [zq] at h; cases h
        rw [upd_ne ne]; exact s1.ext.zh _ _ h
      · by_cases z : i = m
        · subst z
          rw [List.getElem?_set_self hl2] at hm'
          cases hm'
          exact ⟨_, h1, q, dx, _, rfl, b, upd_same, zq, rs.append (.cons rd .nil)⟩
        · rw [List.getElem?_set_ne z] at hm'
          obtain ⟨u, g1, g2⟩ := s1.cell m cl hm'
          refine ⟨u, g1, ?_⟩
          cases cl with
          | fro d => exact g2
          | own es =>
            obtain ⟨q2, ws, rfl, b2, hq2, zq2, rs2⟩ := g2
            have ne : q2 ≠ q := fun y => by
              subst y
              exact s1.sep i m _ z oi (by rw [hm']; exact True.intro) h1 g1
            exact ⟨q2, ws, rfl, b2, by rw [upd_ne ne]; exact hq2, zq2, rs2⟩
          | mk c es =>
            obtain ⟨q2, dx2, ws, rfl, b2, hq2, zq2, rs2⟩ := g2
            have ne : q2 ≠ q := fun y => by
              subst y
              exact s1.sep i m _ z oi (by rw [hm']; exact True.intro) h1 g1
            exact ⟨q2, dx2, ws, rfl, b2, by rw [upd_ne ne]; exact hq2, zq2, rs2⟩
      · have nf : ∀ r : Nat, isOwnC ((env.set i (some (.mk c' (ds ++ [d]))))[r]?) → isOwnC env[r]? := fun r hr => by
          by_cases z : i = r
          · subst z; exact oi
          · rw [List.getElem?_set_ne z] at hr; exact hr
        exact s1.sep m k u hmk (nf m a1) (nf k a2) a3 a4
    · cases hk
  · cases hk
end

/-! ### an __init__ of the text -/
def outI (c nf : Nat) : Option Out → M (List Dt)
  | some (.nx ρ) => match (ρ[0]? : Option (Option Cel)) with
    | some (some (.mk c' fs)) => if c' = c ∧ fs.length = nf then some (.ok fs) else none
    | _ => none
  | some (.xc c ds _) => some (.ex c ds)
  | _ => none
/-- self, np parameters, nl other names; nf fields -/
def fnI (c nf np nl : Nat) (F : FS) : FI := fun args => if args.length = np then outI c nf (F (some (.mk c []) :: (args.map (fun d => some (.fro d)) ++ List.replicate nl none))) else none
section
variable {K : PySem.W.Frag} {T : Tab}
theorem initOk_of {P : Program} {w : World} {mg : Str → Option Value} {base : Heap} {x qual : Str} {params : Arguments} {body : List Stmt} {scope : Scope} {dvs : List V} {kws : List (Str × V)} {f : Addr} {fd : FuncData} {N ps : List Str} {k c nf np nl : Nat} {F : FS}
    (Fd : FunD K x qual params body scope dvs kws f fd) (S : FnScope N ps scope) (hfl : (T.fl c).length = nf) (hp : ps.length = np + 1 := by rfl) (hN : N.length = np + 1 + nl := by rfl)
    (hbody : ∀ (cdv : Value) (A : Around) (outer : List Env) (s : Shared) (H : Hp) (E : XK), Room k (A.deeper (envOfC qual scope s.heap.objs.size f cdv)) →
      Takes (cxOf (L2.CX P w) P w K mg base N qual scope f cdv A outer s H E) (fun cls d _ H => E cls d H) →
      PDSs (cxOf (L2.CX P w) P w K mg base N qual scope f cdv A outer s H E) T (fun cls d _ H => E cls d H) body F) : FnOk P w K mg base (L2.CX P w) (k + 1) f fd ps (spI K T c (fnI c nf np nl F)) := by
  refine Fd.ok S (fun vs H Q E h => ?_) fun cdv A outer s H vs Q E hr h => ⟨_, hbody cdv A outer s H E hr (takes_of rfl rfl rfl rfl), ?_⟩
  · obtain ⟨x, dx, as, ds, Z, H00, out, rfl, _, _, _, _, _, rd, hf, _⟩ := h
    have hl : ds.length = np := by
      unfold fnI at hf
      split at hf
      · assumption
      · cases hf
    rw [List.length_cons, rd.length, hl, hp]
  · obtain ⟨x, dx, as, ds, Z, H00, out, rfl, rfl, nx, ndx, ne, zh, rd, hf, ok, ex⟩ := h
    have hl : ds.length = np := by
      unfold fnI at hf
      split at hf
      · assumption
      · cases hf
    unfold fnI at hf
    rw [if_pos hl] at hf
    have ndx' : (upd H00 dx (.own x)) x = none := by rw [upd_ne (Ne.symm ne)]; exact nx
    have e4 : Ext4 Z H00 Z (upd (upd H00 dx (.own x)) x (.ins (T.ca c) dx [])) := (Ext4.new zh ndx).trans (Ext4.new (zh.trans (Le.upd ndx)) ndx')
    have s : SI K T H00 (Z, x) (some (.mk c []) :: (ds.map (fun d => some (.fro d)) ++ List.replicate nl none)) (start N (.ref x :: as)) Z (upd (upd H00 dx (.own x)) x (.ins (T.ca c) dx [])) := by
      have s0 := SI.start (K := K) (T := T) (Z := Z) (H := H00) (ds := ds) (vs := as) (N := N.tail) (nl := nl) zh rd (by rw [List.length_tail, hN, hl]; omega)
      have hst : start N (.ref x :: as) = some (.ref x) :: start N.tail as := by
        unfold L2.start
        have hl2 := rd.length
        rw [List.map_cons, List.cons_append, List.length_cons, List.length_tail]
        congr 3
        omega
      rw [hst]
      refine ⟨e4, by simp [s0.len], fun i cl hi => ?_, fun i j v hij h1 h2 h3 h4 => ?_, fun i c' ds' v h h' => ?_⟩
      rotate_right 1
      · cases i with
        | zero => simpa using h'.symm
        | succ i =>
          have h1 := h
          simp only [List.getElem?_cons_succ] at h1 h'
          exact absurd (s0.me i _ _ _ h1 h') (by
            obtain ⟨v0, g1, q, dx', vs, e1, b, hq, _⟩ := s0.cell i _ h1
            intro _
            rw [b] at hq; cases hq)
      · cases i with
        | zero =>
          simp only [List.getElem?_cons_zero, Option.some.injEq] at hi
          cases hi
          refine ⟨.ref x, rfl, x, dx, [], rfl, nx, ?_, zh.free nx, .nil⟩
          rw [upd_same]
          simp
        | succ i =>
          obtain ⟨v, g1, g2⟩ := s0.cell i cl (by simpa using hi)
          exact ⟨v, by simpa using g1, CRep.step g2 e4⟩
      · have no : ∀ m : Nat, ¬ isOwnC ((ds.map (fun d => some (Cel.fro d)) ++ List.replicate nl none)[m]?) := fun m hm => by
          by_cases hi : m < ds.length
          · rw [List.getElem?_append_left (by simpa using hi), List.getElem?_map, List.getElem?_eq_getElem hi] at hm
            exact hm
          · rw [List.getElem?_append_right (by simpa using hi), List.getElem?_replicate] at hm
            split at hm <;> exact hm
        cases i with
        | succ i => exact no i (by simpa using h1)
        | zero =>
          cases j with
          | zero => exact hij rfl
          | succ j => exact no j (by simpa using h2)
    generalize hF : F (some (.mk c []) :: (ds.map (fun d => some (.fro d)) ++ List.replicate nl none)) = fo at hf
    revert hf
    rcases fo with _ | (ρ | r | ρ | ρ | ⟨c2, es2, ρ⟩)
    · intro hf; cases hf
    · intro hf
      refine ⟨H00, (Z, x), _, Z, _, hF, s, fun env' q σ' Z' H' s' => ?_, fun _ q => (nomatch q), fun _ q => (nomatch q), fun _ q => (nomatch q), fun _ _ _ q => (nomatch q)⟩
      cases q
      unfold outI at hf
      dsimp only at hf
      split at hf
      · rename_i c' fs h0
        split at hf
        · rename_i hc
          obtain ⟨rfl, hn⟩ := hc
          cases hf
          obtain ⟨v, g1, q, dx', vs, rfl, b, hq, zq, rs⟩ := s'.cell 0 _ h0
          have e5 := s'.ext.freeze b zq hq
          have ex' := s'.me 0 _ _ _ h0 g1
          cases ex'
          refine ok _ rfl _ H' e5 ?_
          simp only [Rep]
          refine ⟨_, dx', vs, rfl, upd_same, ?_, rs.mono (Le.upd zq)⟩
          rw [rs.length, hn, hfl]
        · cases hf
      · cases hf
    · intro hf; cases hf
    · intro hf; cases hf
    · intro hf; cases hf
    · intro hf
      cases hf
      exact ⟨H00, (Z, x), _, Z, _, hF, s, fun _ q => (nomatch q), fun _ q => (nomatch q), fun _ q => (nomatch q), fun _ q => (nomatch q), fun c' ds' env' q cls d σ' Z' H' s' x => by cases q; exact ex _ _ rfl cls d Z' H' s'.ext x⟩
end
end Pd

set_option maxHeartbeats 2000000
/-! PdD: lists and tuples, built-ins of ints and lists, iterators, for, while, comprehensions. -/
namespace Pd
open PySem PySem.Spec L2
open PyProof.Rows (envOfC)

/-! ### lists and tuples by values -/
def LINE : Nat := 16777216
theorem LINE_eq : LINE = sizeLine := by decide
theorem line_of {n : Nat} (h : n ≤ LINE) : n ≤ sizeLine := by rw [← LINE_eq]; exact h
def asL : Rs → Option (List Dt)
  | .fro (.lst ds) => some ds
  | .own ds => some ds
  | .bor ds => some ds
  | _ => none
def asO : Rs → Option (List Dt)
  | .own ds => some ds
  | .bor ds => some ds
  | _ => none
@[simp] theorem asL_fro (ds : List Dt) : asL (.fro (.lst ds)) = some ds := rfl
@[simp] theorem asL_own (ds : List Dt) : asL (.own ds) = some ds := rfl
@[simp] theorem asL_bor (ds : List Dt) : asL (.bor ds) = some ds := rfl
@[simp] theorem asO_own (ds : List Dt) : asO (.own ds) = some ds := rfl
@[simp] theorem asO_bor (ds : List Dt) : asO (.bor ds) = some ds := rfl
section
variable {K : PySem.W.Frag} {T : Tab} {B Z H : Hp} {v : V} {r : Rs} {ds : List Dt}
theorem RRep.list (h : RRep K T B Z H v r) (zh : Le Z H) (e : asL r = some ds) : ∃ p vs, v = .ref p ∧ SqL K H p vs ∧ Reps K T Z ds vs := by
  unfold asL at e
  split at e <;> cases e
  · simp only [RRep, Rep] at h
    obtain ⟨p, vs, rfl, h1, h2⟩ := h
    exact ⟨p, vs, rfl, zh.seqL h1, h2⟩
  · obtain ⟨p, vs, rfl, _, h1, _, h2⟩ := h
    exact ⟨p, vs, rfl, .of h1, h2⟩
  · obtain ⟨p, vs, rfl, h1, h2⟩ := h
    exact ⟨p, vs, rfl, .of h1, h2⟩
theorem RRep.lst (h : RRep K T B Z H v r) (e : asO r = some ds) : ∃ p vs, v = .ref p ∧ H p = some (.lst vs) ∧ Reps K T Z ds vs := by
  unfold asO at e
  split at e <;> cases e
  · obtain ⟨p, vs, rfl, _, h1, _, h2⟩ := h
    exact ⟨p, vs, rfl, h1, h2⟩
  · obtain ⟨p, vs, rfl, h1, h2⟩ := h
    exact ⟨p, vs, rfl, h1, h2⟩
theorem Reps.at {vs : List V} {i : Int} {d : Dt} (h : Reps K T Z ds vs) (e : atI ds i = some d) : ∃ w, atI vs i = some w ∧ Rep K T Z d w := by
  unfold atI at e ⊢
  rw [h.length]
  cases q : ixN ds.length i with
  | none => rw [q] at e; cases e
  | some j =>
    rw [q] at e
    exact h.get e
theorem Reps.cut {vs : List V} {lo hi : Option Int} (h : Reps K T Z ds vs) : Reps K T Z ((ds.drop (HT.sIx ds.length 0 lo)).take (HT.sIx ds.length ds.length hi - HT.sIx ds.length 0 lo)) (cutV vs lo hi) := by
  unfold cutV
  rw [h.length]
  exact (h.drop _).take _
end
def cutD (ds : List Dt) (lo hi : Option Int) : List Dt := (ds.drop (HT.sIx ds.length 0 lo)).take (HT.sIx ds.length ds.length hi - HT.sIx ds.length 0 lo)
/-- xs[i], t[i], s[i] -/
def gIx : G2 := fun x y => match y with
  | .fro (.int i) => match x with
    | .fro (.tup ds) => match atI ds i with
      | some d => some (.ok (.fro d))
      | none => none
    | .fro (.str z) => if z.length ≤ LINE then match atI z.cps.toList i with
      | some c => some (.ok (.fro (.str ⟨#[c]⟩)))
      | none => none else none
    | x => match asL x with
      | some ds => match atI ds i with
        | some d => some (.ok (.fro d))
        | none => none
      | none => none
  | _ => none
section
variable {K : PySem.W.Frag} {T : Tab} {W : WX}
theorem o2_ix : Op2 K T W (rIx K) gIx := fun σ B Z H x y v w out Q zh r1 r2 hg p => by
  unfold gIx at hg
  split at hg
  · simp only [RRep, Rep] at r2
    subst r2
    split at hg
    · split at hg
      · rename_i d hd
        cases hg
        simp only [RRep, Rep] at r1
        obtain ⟨q, vs, rfl, h1, h2⟩ := r1
        obtain ⟨u, h3, h4⟩ := h2.at hd
        exact .inr (.inl ⟨q, vs, _, u, rfl, rfl, zh.seqT h1, h3, p.fro zh h4⟩)
      · cases hg
    · split at hg
      · rename_i hz
        split at hg
        · rename_i c hc
          cases hg
          simp only [RRep, Rep] at r1
          subst r1
          exact .inr (.inr ⟨_, _, c, rfl, rfl, line_of hz, hc, p.fro zh (by simp only [Rep])⟩)
        · cases hg
      · cases hg
    · split at hg
      · rename_i ds hds
        split at hg
        · rename_i d hd
          cases hg
          obtain ⟨q, vs, rfl, h1, h2⟩ := r1.list zh hds
          obtain ⟨u, h3, h4⟩ := h2.at hd
          exact .inl ⟨q, vs, _, u, rfl, rfl, h1, h3, p.fro zh h4⟩
        · cases hg
      · cases hg
  · cases hg
variable {X : Cx} {a b e : Expr} {fa fb f : FE} {es : List Expr} {fs : FA} {pos : Pos} {x1 : _}
theorem pd_item (ha : PD X T W a fa) (hb : PD X T W b fb) (hs : PlainIx b := by exact fun _ _ => rfl) : PD X T W (.Subscript a b pos) (e2 gIx fa fb) := pd_ix ix_seq o2_ix ha hb hs
end
/-! ### displays -/
def eTup (fs : FA) : FE := fun ρ => bnd (fs ρ) fun ds => if ds.length ≤ LINE then some (.ok (.fro (.tup ds))) else none
def eLst (fs : FA) : FE := fun ρ => bnd (fs ρ) fun ds => if ds.length ≤ LINE then some (.ok (.own ds)) else none
section
variable {K : PySem.W.Frag} {T : Tab} {W : WX} {H0 Z H : Hp} {Z0 : Hx} {env : PEnv} {σ : St} {Q : VK} {out : Ex Rs}
theorem tDA_bnd {fa : FA} {k : List Dt → M Rs} {G : List V → Hp → Prop} (h : bnd (fa env) k = some out) (s : SI K T H0 Z0 env σ Z H) (p : Post K T Z H σ W Q out)
    (go : ∀ ds vs Z1 H1, k ds = some out → Ext4 Z H Z1 H1 → Reps K T Z1 ds vs → SI K T H0 Z0 env σ Z1 H1 → Post K T Z1 H1 σ W Q out → G vs H1) : tDA K T W fa σ H G := by
  rcases bnd_cases h with ⟨c, ds, e1, e2⟩ | ⟨r, e1, e2⟩
  · exact ⟨H0, Z0, env, Z, _, e1, s, fun r q => (nomatch q), fun c' ds' q cls d Z' H' e x => by cases q; exact p.ex _ _ e2 cls d Z' H' e x⟩
  · refine ⟨H0, Z0, env, Z, _, e1, s, fun r' q v Z' H' e rr => ?_, fun c' ds' q => (nomatch q)⟩
    cases q
    exact go r v Z' H' e2 e rr (s.step e) (p.step e)
variable {X : Cx} {a b e : Expr} {fa fb f : FE} {es : List Expr} {fs : FA} {pos : Pos}
theorem pd_tup {k : Nat} (h : PDA X T W es fs) : PD X T W (.Tuple es k pos) (eTup fs) := by
  refine PE.imp (pe_tup h) fun σ H Q ⟨H0, Z0, env, Z, out, h, s, p⟩ => ?_
  refine tDA_bnd h s p fun ds vs Z1 H1 hk e1 rs s1 p1 => ?_
  split at hk
  · rename_i hl
    cases hk
    exact ⟨by rw [rs.length]; exact line_of hl, fun q hq => p1.tup e1.zh hq rs⟩
  · cases hk
theorem pd_lst (h : PDA X T W es fs) : PD X T W (.List es pos) (eLst fs) := by
  refine PE.imp (pe_lst h) fun σ H Q ⟨H0, Z0, env, Z, out, h, s, p⟩ => ?_
  refine tDA_bnd h s p fun ds vs Z1 H1 hk e1 rs s1 p1 => ?_
  split at hk
  · rename_i hl
    cases hk
    exact ⟨by rw [rs.length]; exact line_of hl, fun q hq => p1.own e1.zh hq rs⟩
  · cases hk
end
/-! ### slices -/
abbrev FO := PEnv → M (Option Int)
structure PostO (K : PySem.W.Frag) (T : Tab) (Z H : Hp) (σ : St) (W : WX) (Q : Option Int → Hp → Prop) (out : Ex (Option Int)) : Prop where
  ok : ∀ r, out = .ok r → ∀ Z' H', Ext4 Z H Z' H' → Q r H'
  ex : ∀ c ds, out = .ex c ds → ∀ cls d Z' H', Ext4 Z H Z' H' → XRep K T Z' H' cls d c ds → W cls d σ H'
def tDO (K : PySem.W.Frag) (T : Tab) (W : WX) (f : FO) : TO := fun σ H Q => ∃ H0 Z0 env Z out, f env = some out ∧ SI K T H0 Z0 env σ Z H ∧ PostO K T Z H σ W Q out
abbrev PDO (X : Cx) (T : Tab) (W : WX) (e : Option Expr) (f : FO) : Prop := PO X e (tDO X.K T W f)
def oNone : FO := fun _ => some (.ok none)
def asI : Rs → M Int
  | .fro (.int i) => some (.ok i)
  | _ => none
@[simp] theorem asI_int (i : Int) : asI (.fro (.int i)) = some (.ok i) := rfl
def oSome (f : FE) : FO := fun ρ => bnd (f ρ) fun r => bnd (asI r) fun i => some (.ok (some i))
def gSl : Rs → Option Int → Option Int → M Rs := fun x lo hi => match x with
  | .fro (.tup ds) => if ¬ (HT.sIx ds.length 0 lo = 0 ∧ HT.sIx ds.length ds.length hi = ds.length) then some (.ok (.fro (.tup (cutD ds lo hi)))) else none
  | x => match asL x with
    | some ds => some (.ok (.own (cutD ds lo hi)))
    | none => none
def eSl (f : FE) (lo hi : FO) : FE := fun ρ => bnd (f ρ) fun x => bnd (lo ρ) fun l => bnd (hi ρ) fun h => gSl x l h
section
variable {X : Cx} {T : Tab} {W : WX} {e : Expr} {f : FE} {lo hi : Option Expr} {fl fh : FO} {pos p2 : Pos}
theorem pdo_none : PDO X T W none oNone := ⟨fun pins s σ H Q I ⟨H0, Z0, env, Z, out, h, s0, p⟩ => by
  cases h
  exact po_none.run pins s σ H Q I (p.ok _ rfl Z H (Ext4.refl s0.zh))⟩
theorem pdo_some (he : PD X T W e f) : PDO X T W (some e) (oSome f) := ⟨fun pins s σ H Q I ⟨H0, Z0, env, Z, out, h, s0, p⟩ => by
  refine (po_some he).run pins s σ H Q I ?_
  show tD X.K T W f σ H _
  unfold oSome at h
  rcases bnd_cases h with ⟨c, ds, e1, e2⟩ | ⟨r, e1, e2⟩
  · exact ⟨H0, Z0, env, Z, _, e1, s0, fun r q => (nomatch q), fun c' ds' q cls d Z' H' e x => by cases q; exact p.ex _ _ e2 cls d Z' H' e x⟩
  · refine ⟨H0, Z0, env, Z, _, e1, s0, fun r' q v Z' H' x rr => ?_, fun c' ds' q => (nomatch q)⟩
    cases q
    unfold asI at e2
    split at e2
    · cases e2
      simp only [RRep, Rep] at rr
      exact ⟨_, rr, p.ok _ rfl Z' H' x⟩
    · cases e2⟩
theorem tDO_bnd {K : PySem.W.Frag} {H0 Z H : Hp} {Z0 : Hx} {env : PEnv} {σ : St} {Q : VK} {out : Ex Rs} {fa : FO} {k : Option Int → M Rs} {G : Option Int → Hp → Prop} (h : bnd (fa env) k = some out) (s : SI K T H0 Z0 env σ Z H) (p : Post K T Z H σ W Q out)
    (go : ∀ o Z1 H1, k o = some out → Ext4 Z H Z1 H1 → SI K T H0 Z0 env σ Z1 H1 → Post K T Z1 H1 σ W Q out → G o H1) : tDO K T W fa σ H G := by
  rcases bnd_cases h with ⟨c, ds, e1, e2⟩ | ⟨r, e1, e2⟩
  · exact ⟨H0, Z0, env, Z, _, e1, s, fun r q => (nomatch q), fun c' ds' q cls d Z' H' e x => by cases q; exact p.ex _ _ e2 cls d Z' H' e x⟩
  · refine ⟨H0, Z0, env, Z, _, e1, s, fun r' q Z' H' e => ?_, fun c' ds' q => (nomatch q)⟩
    cases q
    exact go r Z' H' e2 e (s.step e) (p.step e)
theorem pd_slice (he : PD X T W e f) (hl : PDO X T W lo fl) (hh : PDO X T W hi fh) : PD X T W (.Subscript e (.Slice lo hi none p2) pos) (eSl f fl fh) := by
  refine PE.imp (pe_slice (SlR.or sl_list sl_tup) he hl hh) fun σ H Q ⟨H0, Z0, env, Z, out, h, s, p⟩ => ?_
  refine tD_bnd h s p fun x v Z1 H1 hk e1 rr s1 p1 => ?_
  refine tDO_bnd hk s1 p1 fun l Z2 H2 hk2 e2 s2 p2 => ?_
  refine tDO_bnd hk2 s2 p2 fun u Z3 H3 hk3 e3 s3 p3 => ?_
  have rr3 := (rr.step e2).step e3
  have zh := e3.zh
  unfold gSl at hk3
  split at hk3
  · split at hk3
    · rename_i ds hl
      cases hk3
      simp only [RRep, Rep] at rr3
      obtain ⟨q, vs, rfl, h1, h2⟩ := rr3
      exact .inr ⟨q, vs, rfl, zh.seqT h1, by rw [h2.length]; exact hl, fun p' hp' => p3.tup zh hp' h2.cut⟩
    · cases hk3
  · split at hk3
    · rename_i ds hds
      cases hk3
      obtain ⟨q, vs, rfl, h1, h2⟩ := rr3.list zh hds
      exact .inl ⟨q, vs, rfl, h1, fun p' hp' => p3.own zh hp' h2.cut⟩
    · cases hk3
end
/-! ### + and * of lists -/
def gCat : G2 := fun x y => match asL x, asL y with
  | some a, some b => if a.length + b.length ≤ LINE then some (.ok (.own (a ++ b))) else none
  | _, _ => none
def gRep : G2 := fun x y => match asO x, y with
  | some a, .fro (.int k) => if k < 2 ^ 62 ∧ -(2 ^ 62) ≤ k ∧ a.length * k.toNat ≤ LINE then some (.ok (.own (List.replicate k.toNat a).flatten)) else none
  | _, _ => none
section
variable {K : PySem.W.Frag} {T : Tab} {W : WX}
def rCatL (K : PySem.W.Frag) : R2 := fun x y H Q => ∃ l b xs zs, x = .ref l ∧ y = .ref b ∧ SqL K H l xs ∧ SqL K H b zs ∧ xs.length + zs.length ≤ sizeLine ∧ ∀ p, H p = none → Q (.ref p) (upd H p (.lst (xs ++ zs)))
theorem op_catL {X : Cx} : OpR X (binaryOp .Add) (rCatL X.K) := by
  intro pins s σ H x y v u Q I rx ry h
  obtain ⟨l, b, xs, zs, rfl, rfl, hH, hB, hz, q⟩ := h
  cases rx
  cases ry
  obtain ⟨its, r, p1, z1⟩ := I.list hH
  obtain ⟨its2, r2, p2, z2⟩ := I.list hB
  obtain ⟨⟨cls, dd, data, sl⟩, ho, hc, n, hd⟩ := id p1.isList
  obtain ⟨⟨cls2, dd2, data2, sl2⟩, ho2, hc2, n2, hd2⟩ := id p2.isList
  simp only at hc hd hc2 hd2
  subst hc hd hc2 hd2
  have l1 := r.length
  have l2 := r2.length
  refine PySem.concat_meets ⟨_, ho, rfl⟩ ⟨_, ho2, rfl⟩ PySem.noFill_list_add PySem.seq_list_add PySem.F.slot_list_add PySem.F.entry_list_add (PySem.F.args_list_add_2 _ _) (PyProof.Rows.list_addW l b its.toArray its2.toArray n n2 dd dd2 sl sl2 (by rw [List.size_toArray, List.size_toArray]; omega)) ⟨ho, ho2, ?_⟩
  have ea : its.toArray ++ its2.toArray = (its ++ its2).toArray := by simp
  rw [ea]
  exact ⟨.ref _, _, I.lnew (t' := s.toks) (r.append r2) (by rw [List.length_append]; omega), rfl, q _ I.fresh⟩
theorem o2_cat : Op2 K T W (rCatL K) gCat := fun σ B Z H x y v w out Q zh r1 r2 hg p => by
  unfold gCat at hg
  split at hg
  · rename_i a b ha hb
    split at hg
    · rename_i hl
      cases hg
      obtain ⟨q1, vs, rfl, h1, s1⟩ := r1.list zh ha
      obtain ⟨q2, ws, rfl, h2, s2⟩ := r2.list zh hb
      exact ⟨q1, q2, vs, ws, rfl, rfl, h1, h2, by rw [s1.length, s2.length]; exact line_of hl, fun q hq => p.own zh hq (s1.append s2)⟩
    · cases hg
  · cases hg
theorem o2_rep : Op2 K T W rRep gRep := fun σ B Z H x y v w out Q zh r1 r2 hg p => by
  unfold gRep at hg
  split at hg
  · rename_i a k ha
    split at hg
    · rename_i hl
      cases hg
      obtain ⟨q1, vs, rfl, h1, s1⟩ := r1.lst ha
      simp only [RRep, Rep] at r2
      exact ⟨q1, k, vs, rfl, r2, h1, by omega, by omega, by rw [s1.length]; exact line_of hl.2.2, fun q hq => p.own zh hq (s1.rep _)⟩
    · cases hg
  · cases hg
end
end Pd

set_option maxHeartbeats 2000000
/-! PdE: built-ins by name, isinstance, lists of one's own changed. -/
namespace Pd
open PySem PySem.Spec L2
open PyProof.Rows (envOfC)

/-! ### built-in functions -/
def OpC1 (K : PySem.W.Frag) (T : Tab) (W : WX) (r : List V → Hp → VK → Prop) (g : G1) : Prop := ∀ (σ : St) (B Z H : Hp) (x : Rs) (v : V) (out : Ex Rs) (Q : VK), Le Z H → RRep K T B Z H v x → g x = some out → Post K T Z H σ W Q out → r [v] H Q
def OpC2 (K : PySem.W.Frag) (T : Tab) (W : WX) (r : List V → Hp → VK → Prop) (g : G2) : Prop := ∀ (σ : St) (B Z H : Hp) (x y : Rs) (v w : V) (out : Ex Rs) (Q : VK), Le Z H → RRep K T B Z H v x → RRep K T B Z H w y → g x y = some out → Post K T Z H σ W Q out → r [v, w] H Q
section
variable {X : Cx} {T : Tab} {W : WX} {x : Str} {p pos : Pos} {a b : Expr} {fa fb : FE} {id : String} {r : List V → Hp → VK → Prop} {g : G1} {g2 : G2}
theorem tC1_of {K : PySem.W.Frag} (h : OpC1 K T W r g) {σ : St} {H : Hp} {Q : VK} (q : tD K T W (e1 g fa) σ H Q) : tCB r (tCons (tD K T W fa) tNil) σ H Q := by
  obtain ⟨H0, Z0, env, Z, out, hf, s, p⟩ := q
  refine tD_bnd hf s p fun x v Z1 H1 hk e1 r1 s1 p1 => ?_
  exact h σ H Z1 H1 x v out Q e1.zh r1 hk p1
theorem tC2_of {K : PySem.W.Frag} (h : OpC2 K T W r g2) {σ : St} {H : Hp} {Q : VK} (q : tD K T W (e2 g2 fa fb) σ H Q) : tCB r (tCons (tD K T W fa) (tCons (tD K T W fb) tNil)) σ H Q := by
  obtain ⟨H0, Z0, env, Z, out, hf, s, p⟩ := q
  refine tD_bnd hf s p fun x v Z1 H1 hk e1 r1 s1 p1 => ?_
  refine tD_bnd hk s1 p1 fun y w Z2 H2 hk2 e2 r2 s2 p2 => ?_
  exact h σ H Z2 H2 x y v w out Q e2.zh (r1.step e2) (r2.base e1.hh) hk2 p2
theorem pd_bi1 (hc : CallR X (.builtin id) r) (h : OpC1 X.K T W r g) (hg : Gl X x) (hm : X.mg x = none) (hv : bootBuiltins x = some (.builtin id)) (ha : PD X T W a fa) (hn : x ≠ "__name__" := by decide) (hdb : (x == ("__debug__" : Str)) = false := by decide)
    (hs : starEach (a :: []) X.env = (false, eval a X.env) :: starEach [] X.env := by rfl) (hpl : (backTo pos (starEach [] X.env)).any (·.1) = false := by rfl) : PD X T W (.Call (.Name x p) [a] [] pos) (e1 g fa) :=
  PE.imp (pe_callB hc hg hm hv (pa_cons ha pa_nil hs) hn hdb hs hpl) fun _ _ _ q => tC1_of h q
theorem pd_ty1 {T' : String} (hc : CallR X (.type T') r) (h : OpC1 X.K T W r g) (hg : Gl X x) (hm : X.mg x = none) (hv : bootBuiltins x = some (.type T')) (ha : PD X T W a fa) (hn : x ≠ "__name__" := by decide) (hdb : (x == ("__debug__" : Str)) = false := by decide)
    (hs : starEach (a :: []) X.env = (false, eval a X.env) :: starEach [] X.env := by rfl) (hpl : (backTo pos (starEach [] X.env)).any (·.1) = false := by rfl) : PD X T W (.Call (.Name x p) [a] [] pos) (e1 g fa) :=
  PE.imp (pe_callTy hc hg hm hv (pa_cons ha pa_nil hs) hn hdb hs hpl) fun _ _ _ q => tC1_of h q
theorem pd_bi2 (hc : CallR X (.builtin id) r) (h : OpC2 X.K T W r g2) (hg : Gl X x) (hm : X.mg x = none) (hv : bootBuiltins x = some (.builtin id)) (ha : PD X T W a fa) (hb : PD X T W b fb) (hn : x ≠ "__name__" := by decide) (hdb : (x == ("__debug__" : Str)) = false := by decide)
    (hs : starEach (a :: [b]) X.env = (false, eval a X.env) :: starEach [b] X.env := by rfl) (hs2 : starEach (b :: []) X.env = (false, eval b X.env) :: starEach [] X.env := by rfl) (hpl : (backTo pos (starEach [b] X.env)).any (·.1) = false := by rfl) : PD X T W (.Call (.Name x p) [a, b] [] pos) (e2 g2 fa fb) :=
  PE.imp (pe_callB hc hg hm hv (pa_cons ha (pa_cons hb pa_nil hs2) hs) hn hdb hs hpl) fun _ _ _ q => tC2_of h q
theorem pd_bf2 (hc : CallR X (.builtin id) r) (h : OpC2 X.K T W r g2) (hg : Gl X x) (hm : X.mg x = some (.builtin id)) (ha : PD X T W a fa) (hb : PD X T W b fb) (hdb : (x == ("__debug__" : Str)) = false := by decide)
    (hs : starEach (a :: [b]) X.env = (false, eval a X.env) :: starEach [b] X.env := by rfl) (hs2 : starEach (b :: []) X.env = (false, eval b X.env) :: starEach [] X.env := by rfl) (hpl : (backTo pos (starEach [b] X.env)).any (·.1) = false := by rfl) : PD X T W (.Call (.Name x p) [a, b] [] pos) (e2 g2 fa fb) :=
  PE.imp (pe_callBfun hc hg hm (pa_cons ha (pa_cons hb pa_nil hs2) hs) hdb hs hpl) fun _ _ _ q => tC2_of h q
end
def gLen : G1 := fun x => match x with
  | .fro (.tup ds) => vI ds.length
  | .fro (.str z) => if z.length ≤ LINE then vI z.length else none
  | x => match asL x with
    | some ds => vI ds.length
    | none => none
def gAbs : G1
  | .fro (.int i) => vI (if i < 0 then -i else i)
  | _ => none
def gInt : G1
  | .fro (.int i) => vI i
  | .fro (.bl k) => vI (if k then 1 else 0)
  | _ => none
def gMax : G2 := gII fun i j => vI (if j > i then j else i)
def gMin : G2 := gII fun i j => vI (if j < i then j else i)
def gGcd : G2 := gII fun i j => vI ((Nat.gcd i.natAbs j.natAbs : Nat) : Int)
/-- list(x) of a list or a tuple -/
def gList : G1 := fun x => match x with
  | .fro (.tup ds) => some (.ok (.own ds))
  | x => match asL x with
    | some ds => some (.ok (.own ds))
    | none => none
def gTuple : G1 := fun x => match x with
  | .fro (.tup ds) => some (.ok (.fro (.tup ds)))
  | x => match asL x with
    | some ds => some (.ok (.fro (.tup ds)))
    | none => none
section
variable {X : Cx} {T : Tab} {W : WX} {p pos : Pos} {a b : Expr} {fa fb : FE}
theorem oc_len : OpC1 X.K T W (fun xs H Q => ∃ x n, xs = [x] ∧ LenV X.K x H n ∧ Q (.int n) H) gLen := fun σ B Z H x v out Q zh r1 hg p => by
  unfold gLen at hg
  split at hg
  · cases hg
    simp only [RRep, Rep] at r1
    obtain ⟨q, vs, rfl, h1, h2⟩ := r1
    refine ⟨_, vs.length, rfl, .inr ⟨vs, zh.seqT h1, rfl⟩, ?_⟩
    rw [h2.length]
    exact p.fro zh (by simp only [Rep])
  · split at hg
    · rename_i hz
      cases hg
      simp only [RRep, Rep] at r1
      subst r1
      exact ⟨_, _, rfl, ⟨line_of hz, rfl⟩, p.fro zh (by simp only [Rep])⟩
    · cases hg
  · split at hg
    · rename_i ds hds
      cases hg
      obtain ⟨q, vs, rfl, h1, h2⟩ := r1.list zh hds
      refine ⟨_, vs.length, rfl, .inl ⟨vs, h1, rfl⟩, ?_⟩
      rw [h2.length]
      exact p.fro zh (by simp only [Rep])
    · cases hg
theorem oc_abs : OpC1 X.K T W (fun xs H Q => ∃ i, xs = [.int i] ∧ Q (.int (if i < 0 then -i else i)) H) gAbs := fun σ B Z H x v out Q zh r1 hg p => by
  unfold gAbs at hg
  split at hg
  · cases hg
    simp only [RRep, Rep] at r1
    subst r1
    exact ⟨_, rfl, p.fro zh (by simp only [Rep])⟩
  · cases hg
theorem oc_int : OpC1 X.K T W (fun xs H Q => (∃ i, xs = [.int i] ∧ Q (.int i) H) ∨ ∃ k, xs = [.bl k] ∧ Q (.int (if k then 1 else 0)) H) gInt := fun σ B Z H x v out Q zh r1 hg p => by
  unfold gInt at hg
  split at hg
  · cases hg
    simp only [RRep, Rep] at r1
    subst r1
    exact .inl ⟨_, rfl, p.fro zh (by simp only [Rep])⟩
  · cases hg
    simp only [RRep, Rep] at r1
    subst r1
    exact .inr ⟨_, rfl, p.fro zh (by simp only [Rep])⟩
  · cases hg
theorem oc_II {g : Int → Int → Int} : OpC2 X.K T W (fun xs H Q => ∃ i j, xs = [.int i, .int j] ∧ Q (.int (g i j)) H) (gII fun i j => vI (g i j)) := fun σ B Z H x y v w out Q zh r1 r2 hg p => by
  obtain ⟨i, j, rfl, rfl, e⟩ := gII_inv hg
  cases e
  simp only [RRep, Rep] at r1 r2
  subst r1 r2
  exact ⟨i, j, rfl, p.fro zh (by simp only [Rep])⟩
theorem oc_list : OpC1 X.K T W (fun xs H Q => ∃ p ys, xs = [.ref p] ∧ (SqL X.K H p ys ∨ SqT X.K H p ys) ∧ ∀ l, H l = none → Q (.ref l) (upd H l (.lst ys))) gList := fun σ B Z H x v out Q zh r1 hg p => by
  unfold gList at hg
  split at hg
  · cases hg
    simp only [RRep, Rep] at r1
    obtain ⟨q, vs, rfl, h1, h2⟩ := r1
    exact ⟨q, vs, rfl, .inr (zh.seqT h1), fun l hl => p.own zh hl h2⟩
  · split at hg
    · rename_i ds hds
      cases hg
      obtain ⟨q, vs, rfl, h1, h2⟩ := r1.list zh hds
      exact ⟨q, vs, rfl, .inl h1, fun l hl => p.own zh hl h2⟩
    · cases hg
theorem oc_tuple : OpC1 X.K T W (fun xs H Q => ∃ p ys, xs = [.ref p] ∧ ((SqL X.K H p ys ∧ ∀ l, H l = none → Q (.ref l) (upd H l (.tup ys))) ∨ (SqT X.K H p ys ∧ Q (.ref p) H))) gTuple := fun σ B Z H x v out Q zh r1 hg p => by
  unfold gTuple at hg
  split at hg
  · cases hg
    have r1' := r1
    simp only [RRep, Rep] at r1
    obtain ⟨q, vs, rfl, h1, h2⟩ := r1
    exact ⟨q, vs, rfl, .inr ⟨zh.seqT h1, p.fro zh r1'⟩⟩
  · split at hg
    · rename_i ds hds
      cases hg
      obtain ⟨q, vs, rfl, h1, h2⟩ := r1.list zh hds
      exact ⟨q, vs, rfl, .inl ⟨h1, fun l hl => p.tup zh hl h2⟩⟩
    · cases hg
theorem pd_len (hm : X.mg "len" = none) (ha : PD X T W a fa) (hg : Gl X "len" := by rfl) (hs : starEach (a :: []) X.env = (false, eval a X.env) :: starEach [] X.env := by rfl) (hpl : (backTo pos (starEach [] X.env)).any (·.1) = false := by rfl) : PD X T W (.Call (.Name "len" p) [a] [] pos) (e1 gLen fa) :=
  pd_bi1 call_len oc_len hg hm boot_len ha (hs := hs) (hpl := hpl)
theorem pd_abs (hm : X.mg "abs" = none) (ha : PD X T W a fa) (hg : Gl X "abs" := by rfl) (hs : starEach (a :: []) X.env = (false, eval a X.env) :: starEach [] X.env := by rfl) (hpl : (backTo pos (starEach [] X.env)).any (·.1) = false := by rfl) : PD X T W (.Call (.Name "abs" p) [a] [] pos) (e1 gAbs fa) :=
  pd_bi1 call_abs oc_abs hg hm (by decide +kernel) ha (hs := hs) (hpl := hpl)
theorem pd_intf (hm : X.mg "int" = none) (ha : PD X T W a fa) (hg : Gl X "int" := by rfl) (hs : starEach (a :: []) X.env = (false, eval a X.env) :: starEach [] X.env := by rfl) (hpl : (backTo pos (starEach [] X.env)).any (·.1) = false := by rfl) : PD X T W (.Call (.Name "int" p) [a] [] pos) (e1 gInt fa) :=
  pd_ty1 call_int1 oc_int hg hm (by decide +kernel) ha (hs := hs) (hpl := hpl)
theorem pd_listf (hm : X.mg "list" = none) (ha : PD X T W a fa) (hg : Gl X "list" := by rfl) (hs : starEach (a :: []) X.env = (false, eval a X.env) :: starEach [] X.env := by rfl) (hpl : (backTo pos (starEach [] X.env)).any (·.1) = false := by rfl) : PD X T W (.Call (.Name "list" p) [a] [] pos) (e1 gList fa) :=
  pd_ty1 call_list_of oc_list hg hm (by decide +kernel) ha (hs := hs) (hpl := hpl)
theorem pd_tuplef (hm : X.mg "tuple" = none) (ha : PD X T W a fa) (hg : Gl X "tuple" := by rfl) (hs : starEach (a :: []) X.env = (false, eval a X.env) :: starEach [] X.env := by rfl) (hpl : (backTo pos (starEach [] X.env)).any (·.1) = false := by rfl) : PD X T W (.Call (.Name "tuple" p) [a] [] pos) (e1 gTuple fa) :=
  pd_ty1 call_tuple_of oc_tuple hg hm (by decide +kernel) ha (hs := hs) (hpl := hpl)
theorem pd_max (hc : X.calm = true) (hm : X.mg "max" = none) (ha : PD X T W a fa) (hb : PD X T W b fb) (hg : Gl X "max" := by rfl) (hs : starEach (a :: [b]) X.env = (false, eval a X.env) :: starEach [b] X.env := by rfl) (hs2 : starEach (b :: []) X.env = (false, eval b X.env) :: starEach [] X.env := by rfl)
    (hpl : (backTo pos (starEach [b] X.env)).any (·.1) = false := by rfl) : PD X T W (.Call (.Name "max" p) [a, b] [] pos) (e2 gMax fa fb) := pd_bi2 (call_max2 hc) oc_II hg hm (by decide +kernel) ha hb (hs := hs) (hs2 := hs2) (hpl := hpl)
theorem pd_min (hc : X.calm = true) (hm : X.mg "min" = none) (ha : PD X T W a fa) (hb : PD X T W b fb) (hg : Gl X "min" := by rfl) (hs : starEach (a :: [b]) X.env = (false, eval a X.env) :: starEach [b] X.env := by rfl) (hs2 : starEach (b :: []) X.env = (false, eval b X.env) :: starEach [] X.env := by rfl)
    (hpl : (backTo pos (starEach [b] X.env)).any (·.1) = false := by rfl) : PD X T W (.Call (.Name "min" p) [a, b] [] pos) (e2 gMin fa fb) := pd_bi2 (call_min2 hc) oc_II hg hm (by decide +kernel) ha hb (hs := hs) (hs2 := hs2) (hpl := hpl)
theorem pd_gcd (hm : X.mg "gcd" = some (.builtin "math.gcd")) (ha : PD X T W a fa) (hb : PD X T W b fb) (hg : Gl X "gcd" := by rfl) (hs : starEach (a :: [b]) X.env = (false, eval a X.env) :: starEach [b] X.env := by rfl) (hs2 : starEach (b :: []) X.env = (false, eval b X.env) :: starEach [] X.env := by rfl)
    (hpl : (backTo pos (starEach [b] X.env)).any (·.1) = false := by rfl) : PD X T W (.Call (.Name "gcd" p) [a, b] [] pos) (e2 gGcd fa fb) := pd_bf2 cr_gcd oc_II hg hm ha hb (hs := hs) (hs2 := hs2) (hpl := hpl)
end

/-! ### isinstance -/
inductive CR where
  | ty (n : String) | own (c : Nat)
  deriving DecidableEq
def CR.val (T : Tab) : CR → Value
  | .ty n => .type n
  | .own c => .ref (T.ca c)
def CR.v (T : Tab) : CR → V
  | .ty n => .ty n
  | .own c => .ref (T.ca c)
def typD : Dt → Option CR
  | .non => some (.ty "NoneType") | .bl _ => some (.ty "bool") | .int _ => some (.ty "int") | .str _ => some (.ty "str") | .tup _ => some (.ty "tuple") | .lst _ => some (.ty "list") | .ins c _ => some (.own c) | .ty _ => none
def typR : Rs → Option CR
  | .fro d => typD d
  | _ => some (.ty "list")
def gIsi (ans : CR → Option Bool) : G1 := fun r => match typR r with
  | some t => match ans t with
    | some b => vB b
    | none => none
  | none => none
/-- what isinstance asks of a class of the table -/
structure IsiC (K : PySem.W.Frag) (T : Tab) (c : Nat) : Prop where
  cls : Cls K (T.ca c)
  ha : PySem.W.findIn K (.ref (T.ca c)) "__class__" = some (some (.builtin "object.__class__"))
  hn : PySem.W.specialIn K (.builtin "object.__class__") "__get__" = some (some (.builtin "getset_descriptor.__get__"))
  htk : PySem.W.takesIn K (.builtin "object.__class__") = some true
  hm : PySem.W.mroIn K (T.ca c) (.type "object") = some true
theorem sqL_ty {K : PySem.W.Frag} {H : Hp} {p : Addr} {vs : List V} (h : SqL K H p vs) : TyX K H (.ref p) (.type "list") := by
  rcases h with (h | ⟨o, h⟩) | ⟨o, its, n, hk, hc, _⟩
  · exact .base (.lst h)
  · exact .base (.frz h)
  · exact .kList hk hc
theorem sqT_ty {K : PySem.W.Frag} {H : Hp} {p : Addr} {vs : List V} (h : SqT K H p vs) : TyX K H (.ref p) (.type "tuple") := by
  rcases h with (h | ⟨o, h⟩) | ⟨o, its, n, hk, hc, _⟩
  · exact .base (.tup h)
  · exact .fTuple h
  · exact .kTuple hk hc
theorem typR_ok {K : PySem.W.Frag} {T : Tab} {B Z H : Hp} {r : Rs} {v : V} {t : CR} (hI : ∀ c, t = .own c → IsiC K T c) (zh : Le Z H) (h : RRep K T B Z H v r) (e : typR r = some t) : TyX K H v (t.val T) := by
  cases r with
  | own ds => cases e; obtain ⟨p, vs, rfl, _, h1, _⟩ := h; exact sqL_ty (.of h1)
  | bor ds => cases e; obtain ⟨p, vs, rfl, h1, _⟩ := h; exact sqL_ty (.of h1)
  | fro d =>
    cases d <;> simp only [typR, typD, Option.some.injEq, reduceCtorEq] at e <;> subst e <;> simp only [RRep, Rep] at h
    · subst h; exact .base .non
    · subst h; exact .base (.bl _)
    · subst h; exact .base (.int _)
    · subst h; exact .base (.str _)
    · obtain ⟨p, vs, rfl, h1, _⟩ := h; exact sqT_ty (zh.seqT h1)
    · obtain ⟨p, vs, rfl, h1, _⟩ := h; exact sqL_ty (zh.seqL h1)
    · obtain ⟨p, dx, vs, rfl, h1, _⟩ := h
      have I := hI _ rfl
      exact .base (.ins (zh _ _ h1) I.cls I.ha I.hn I.htk I.hm)
section
variable {X : Cx} {T : Tab} {W : WX} {p pos : Pos} {a b : Expr} {fa : FE}
theorem pd_isi (cr : CR) {ans : CR → Option Bool} (hA : ∀ t r, ans t = some r → PySem.W.kitOne X.K (t.val T) (cr.val T) = some r) (hI : ∀ c r, ans (.own c) = some r → IsiC X.K T c) (hm : X.mg "isinstance" = none) (ha : PD X T W a fa) (hb : PE X b (tC (cr.v T)))
    (hg : Gl X "isinstance" := by rfl) (hs : starEach (a :: [b]) X.env = (false, eval a X.env) :: starEach [b] X.env := by rfl) (hs2 : starEach (b :: []) X.env = (false, eval b X.env) :: starEach [] X.env := by rfl)
    (hpl : (backTo pos (starEach [b] X.env)).any (·.1) = false := by rfl) : PD X T W (.Call (.Name "isinstance" p) [a, b] [] pos) (e1 (gIsi ans) fa) := by
  refine PE.imp (pe_callB call_isi hg hm PyProof.Rows.boot_isinstance (pa_cons ha (pa_cons hb pa_nil hs2) hs) (by decide) (by decide) hs hpl) fun σ H Q ⟨H0, Z0, env, Z, out, hf, s, p⟩ => ?_
  refine tD_bnd hf s p fun x v Z1 H1 hk e1 r1 s1 p1 => ?_
  show rIsi X.K [v, cr.v T] H1 Q
  unfold gIsi at hk
  split at hk
  · rename_i t ht
    split at hk
    · rename_i r hr
      cases hk
      refine ⟨v, cr.v T, t.val T, cr.val T, r, rfl, ?_, typR_ok (fun c e => hI c r (by rw [← e]; exact hr)) e1.zh r1 ht, hA t r hr, p1.fro e1.zh (by simp only [Rep])⟩
      cases cr with
      | ty n => exact .ty n
      | own c => exact .own _
    · cases hk
  · cases hk
/-- isinstance(x, int) and such: the built-in kinds' answers -/
def ansB (n : String) (cs : List Nat) : CR → Option Bool
  | .ty m => kitB m n
  | .own c => if cs.contains c then some false else none
end

/-! ### lists of one's own, changed -/
theorem SI.change {K : PySem.W.Frag} {T : Tab} {H0 Z1 H1 : Hp} {Z0 : Hx} {env : PEnv} {σ : St} {i : Nat} {ds es : List Dt} {ws : List V} {q : Addr} (s : SI K T H0 Z0 env σ Z1 H1) (he : env[i]? = some (some (.own ds))) (hσ : σ[i]? = some (some (.ref q)))
    (rs : Reps K T Z1 es ws) : SI K T H0 Z0 (env.set i (some (.own es))) σ Z1 (upd H1 q (.lst ws)) := by
  obtain ⟨w, h1, q', vs, rfl, b, hq, zq, _⟩ := s.cell i _ he
  rw [hσ] at h1
  cases h1
  have oi : isOwnC env[i]? := by rw [he]; exact True.intro
  have hl2 : i < env.length := (List.getElem?_eq_some_iff.mp he).1
  refine ⟨⟨fun a o h => ?_, s.ext.zz, fun a o h => ?_, s.ext.st⟩, by simp [s.len], fun m cl hm' => ?_, fun m k u hmk a1 a2 a3 a4 => ?_, fun m c2 ds2 v2 hm' h' => ?_⟩
  · have ne : a ≠ q := fun z => by subst z; rw [b] at h; cases h
    rw [upd_ne ne]; exact s.ext.hh _ _ h
  · have ne : a ≠ q := fun z => by subst z; rw [zq] at h; cases h
    rw [upd_ne ne]; exact s.ext.zh _ _ h
  · by_cases z : i = m
    · subst z
      rw [List.getElem?_set_self hl2] at hm'
      cases hm'
      exact ⟨_, hσ, q, _, rfl, b, upd_same, zq, rs⟩
    · rw [List.getElem?_set_ne z] at hm'
      obtain ⟨u, g1, g2⟩ := s.cell m cl hm'
      refine ⟨u, g1, ?_⟩
      cases cl with
      | fro d => exact g2
      | own es =>
        obtain ⟨q2, ws, rfl, b2, hq2, zq2, rs2⟩ := g2
        have ne : q2 ≠ q := fun y => by
          subst y
          exact s.sep i m _ z oi (by rw [hm']; exact True.intro) hσ g1
        exact ⟨q2, ws, rfl, b2, by rw [upd_ne ne]; exact hq2, zq2, rs2⟩
      | mk c es =>
        obtain ⟨q2, dx2, ws, rfl, b2, hq2, zq2, rs2⟩ := g2
        have ne : q2 ≠ q := fun y => by
          subst y
          exact s.sep i m _ z oi (by rw [hm']; exact True.intro) hσ g1
        exact ⟨q2, dx2, ws, rfl, b2, by rw [upd_ne ne]; exact hq2, zq2, rs2⟩
  · have nf : ∀ r : Nat, isOwnC ((env.set i (some (.own es)))[r]?) → isOwnC env[r]? := fun r hr => by
      by_cases z : i = r
      · subst z; exact oi
      · rw [List.getElem?_set_ne z] at hr; exact hr
    exact s.sep m k u hmk (nf m a1) (nf k a2) a3 a4
  · by_cases z : i = m
    · subst z
      rw [List.getElem?_set_self hl2] at hm'; cases hm'
    · rw [List.getElem?_set_ne z] at hm'; exact s.me m _ _ _ hm' h'
/-- xs.append(e) -/
def sApp (i : Nat) (f : FE) : FS := fun ρ => match ρ[i]? with
  | some (some (.own ds)) => bndS ρ (f ρ) fun r => bndS ρ (frz r) fun d => if ds.length < LINE then some (.nx (ρ.set i (some (.own (ds ++ [d]))))) else none
  | _ => none
/-- xs[k] = e -/
def sSetIx (i : Nat) (fk f : FE) : FS := fun ρ => match ρ[i]? with
  | some (some (.own ds)) => bndS ρ (f ρ) fun r => bndS ρ (frz r) fun d => bndS ρ (fk ρ) fun k => bndS ρ (asI k) fun k => match ixN ds.length k with
    | some j => some (.nx (ρ.set i (some (.own (ds.set j d)))))
    | none => none
  | _ => none
/-- xs.pop() as a statement -/
def sPop (i : Nat) : FS := fun ρ => match ρ[i]? with
  | some (some (.own ds)) => if ds = [] then none else some (.nx (ρ.set i (some (.own ds.dropLast))))
  | _ => none
section
variable {X : Cx} {T : Tab} {W : WX} {i : Nat} {x : Str} {xp apos cpos pos pos' : Pos} {e k : Expr} {f fk : FE}
theorem var_own {K : PySem.W.Frag} {H0 Z H : Hp} {Z0 : Hx} {env : PEnv} {σ : St} {ds : List Dt} (s : SI K T H0 Z0 env σ Z H) (he : env[i]? = some (some (.own ds))) : ∃ q vs, σ[i]? = some (some (.ref q)) ∧ H q = some (.lst vs) ∧ Reps K T Z ds vs := by
  obtain ⟨w, h1, q, vs, rfl, b, hq, zq, rs⟩ := s.cell i _ he
  exact ⟨q, vs, h1, hq, rs⟩
theorem pds_app (he : PD X T W e f) (hN : X.N[i]? = some x := by rfl) (hv : Vis X.env.scope x := by first | exact Or.inl rfl | exact Or.inr (Or.inl rfl) | exact Or.inr (Or.inr rfl)) (hd : (x == ("__debug__" : Str)) = false := by decide) (hcd : (x == ("__classdict__" : Str)) = false := by decide)
    (hbase : attributeBase (.Name x xp) "append" X.env (eval (.Name x xp) X.env) = eval (.Name x xp) X.env := by rfl)
    (hfew : ((backTo cpos (starEach (e :: []) X.env)).all (fun x => !x.1) && (backToKw cpos (keywordEach [] X.env)).all (fun x => x.1.isSome)
      && decide ((e :: []).length + ([] : List Keyword).length + (if ([] : List Keyword).isEmpty then 0 else 1) < 30)) = true := by rfl)
    (hline : (apos.endLine == cpos.line) = true := by rfl) (hs : starEach (e :: []) X.env = (false, eval e X.env) :: starEach [] X.env := by rfl) (hplain : (backTo cpos (starEach [] X.env)).any (·.1) = false := by rfl)
    (hsw : swapsWith (.Call (.Attribute (.Name x xp) "append" apos) [e] [] cpos) none pos.line X.env = pure false := by rfl) :
    PDS X T W (.Expr (.Call (.Attribute (.Name x xp) "append" apos) [e] [] cpos) pos) (sApp i f) := by
  refine PS.imp (ps_expr (pe_bm PySem.F.plainAttrs_list PySem.F.slot_list_append PySem.F.type_list_append mt_append (pe_var hN hv hd hcd) (pa_cons he pa_nil hs) hbase hfew hline hs hplain) hsw) fun D σ H ⟨H0, Z0, env, Z, out, h, s, p⟩ => ?_
  unfold sApp at h
  split at h
  · rename_i ds hk
    obtain ⟨q, vs, g1, g2, g3⟩ := var_own s hk
    refine ⟨_, g1, .inl ⟨rfl, vs, .of g2⟩, ?_⟩
    refine tD_bndSF h s p fun d v Z1 H1 hkk e1 rd s1 => ?_
    split at hkk
    · rename_i hl
      cases hkk
      obtain ⟨q', vs', g1', g2', g3'⟩ := var_own s1 hk
      rw [g1] at g1'
      cases g1'
      refine ⟨q, vs', v, rfl, rfl, g2', by rw [g3'.length, ← LINE_eq]; exact hl, ?_⟩
      exact p.nx _ rfl σ Z1 _ (s1.change hk g1 (g3'.append (.cons rd .nil)))
    · cases hkk
  · cases h
theorem pds_setIx (he : PD X T W e f) (hk : PD X T W k fk) (hN : X.N[i]? = some x := by rfl) (hv : Vis X.env.scope x := by first | exact Or.inl rfl | exact Or.inr (Or.inl rfl) | exact Or.inr (Or.inr rfl)) (hd : (x == ("__debug__" : Str)) = false := by decide) (hcd : (x == ("__classdict__" : Str)) = false := by decide)
    (ha : ∀ v, assign (.Subscript (.Name x xp) k pos') X.env v = (do
      let ov ← holding [v] (eval (.Name x xp) X.env)
      let iv ← holding [v, ov] (eval k X.env)
      standAt pos'
      holding [v, ov, iv] (setItem ov iv v)
      release [v, ov, iv] []) := by intro _; rfl)
    (hs : swapsWithSole [.Subscript (.Name x xp) k pos'] e pos.line X.env = pure false := by rfl) (hw : swappedStores [.Subscript (.Name x xp) k pos'] e X.env = pure none := by rfl)
    (h1 : (assignEach [.Subscript (.Name x xp) k pos'] X.env).map (·.2) = [assign (.Subscript (.Name x xp) k pos') X.env] := by rfl) :
    PDS X T W (.Assign [.Subscript (.Name x xp) k pos'] e pos) (sSetIx i fk f) := by
  refine PS.imp (ps_asg he (pg_sub (pe_var hN hv hd hcd) hk set_list ha) hs hw h1) fun D σ H ⟨H0, Z0, env, Z, out, h, s, p⟩ => ?_
  unfold sSetIx at h
  split at h
  · rename_i ds hk
    refine tD_bndSF h s p fun d v Z1 H1 hkk e1 rd s1 => ?_
    obtain ⟨q, vs, g1, g2, g3⟩ := var_own s1 hk
    refine ⟨_, g1, ?_⟩
    refine tD_bndS hkk s1 p fun r w Z2 H2 hk2 e2 rr s2 => ?_
    rcases bndS_cases hk2 with ⟨c, es, q1, q2⟩ | ⟨kk, q1, q2⟩
    · unfold asI at q1; split at q1 <;> cases q1
    · unfold asI at q1
      split at q1
      · cases q1
        simp only [RRep, Rep] at rr
        split at q2
        · rename_i j hj
          cases q2
          obtain ⟨q', vs', g1', g2', g3'⟩ := var_own s2 hk
          rw [g1] at g1'
          cases g1'
          refine ⟨q, vs', kk, j, rfl, rr, g2', by rw [g3'.length]; exact hj, ?_⟩
          exact p.nx _ rfl σ Z2 _ (s2.change hk g1 (g3'.set j (rd.mono e2.zz)))
        · cases q2
      · cases q1
  · cases h
theorem pds_pop (hN : X.N[i]? = some x := by rfl) (hv : Vis X.env.scope x := by first | exact Or.inl rfl | exact Or.inr (Or.inl rfl) | exact Or.inr (Or.inr rfl)) (hd : (x == ("__debug__" : Str)) = false := by decide) (hcd : (x == ("__classdict__" : Str)) = false := by decide)
    (hbase : attributeBase (.Name x xp) "pop" X.env (eval (.Name x xp) X.env) = eval (.Name x xp) X.env := by rfl) (hline : (apos.endLine == cpos.line) = true := by rfl)
    (hsw : swapsWith (.Call (.Attribute (.Name x xp) "pop" apos) [] [] cpos) none pos.line X.env = pure false := by rfl) :
    PDS X T W (.Expr (.Call (.Attribute (.Name x xp) "pop" apos) [] [] cpos) pos) (sPop i) := by
  refine PS.imp (ps_expr (pe_bm0 PySem.F.plainAttrs_list PySem.F.slot_list_pop PySem.F.type_list_pop mt_pop (pe_var hN hv hd hcd) hbase hline) hsw) fun D σ H ⟨H0, Z0, env, Z, out, h, s, p⟩ => ?_
  unfold sPop at h
  split at h
  · rename_i ds hk
    obtain ⟨q, vs, g1, g2, g3⟩ := var_own s hk
    split at h
    · cases h
    · rename_i hne
      cases h
      have hl : 0 < vs.length := by rw [g3.length]; exact List.length_pos_iff.mpr hne
      refine ⟨_, g1, .inl ⟨rfl, vs, .of g2⟩, q, vs, vs[vs.length - 1]'(by omega), rfl, rfl, g2, by simp, ?_⟩
      exact p.nx _ rfl σ Z _ (s.change hk g1 g3.dropLast)
  · cases h
/-- x += e, x -= e, x *= e of ints -/
def sAug (g : G2) (i : Nat) (f : FE) : FS := fun ρ => match ρ[i]? with
  | some (some (.fro d)) => bndS ρ (f ρ) fun r => bndS ρ (g (.fro d) r) fun r => match celOf r with
    | some c => some (.nx (ρ.set i (some c)))
    | none => none
  | _ => none
theorem pds_augI {op : Operator} {gg : Int → Int → Int} (hop : PIp X op (ipI gg)) (hN : X.N.Nodup) (he : PD X T W e f) (hi : X.N[i]? = some x := by rfl) (hx : Loc X.env.scope x := by first | exact Or.inl rfl | exact Or.inr rfl) (hf : X.fn x = true ∨ X.env.scope.names.lookup x = some .local := by first | exact .inl rfl | exact .inr rfl) :
    PDS X T W (.AugAssign (.Name x xp) op e pos) (sAug (gII fun a b => vI (gg a b)) i f) := by
  refine PS.imp (ps_aug hN hi hx he hop hf) fun D σ H ⟨H0, Z0, env, Z, out, h, s, p⟩ => ?_
  unfold sAug at h
  split at h
  · rename_i d hd
    obtain ⟨v, g1, g2⟩ := s.cell i _ hd
    refine ⟨v, g1, ?_⟩
    refine tD_bndS h s p fun r w Z1 H1 hk e1 rr s1 => ?_
    rcases bndS_cases hk with ⟨c, es, q1, q2⟩ | ⟨r2, q1, q2⟩
    · obtain ⟨a, b, _, _, z⟩ := gII_inv q1; cases z
    · obtain ⟨a, b, ea, rfl, z⟩ := gII_inv q1
      cases ea
      cases z
      simp only [RRep, CRep, Rep] at rr g2
      subst rr g2
      cases q2
      exact ⟨a, b, rfl, rfl, p.nx _ rfl _ Z1 H1 (s1.setFro (by simp only [Rep]))⟩
  · cases h
end
end Pd

set_option maxHeartbeats 2000000
/-! PdF: targets, iterators, for, while, comprehensions. -/
namespace Pd
open PySem PySem.Spec L2
open PyProof.Rows (envOfC)

/-! ### targets -/
abbrev GT := Dt → PEnv → Option PEnv
/-- a target's reading follows from its plain function; only places of vs are changed -/
def TgD (K : PySem.W.Frag) (T : Tab) (g : TG) (gt : GT) (vs : List Nat) : Prop := ∀ (H0 : Hp) (Z0 : Hx) (env env' : PEnv) (σ : St) (Z H : Hp) (d : Dt) (v : V) (Q : St → Hp → Prop), gt d env = some env' → Rep K T Z d v → SI K T H0 Z0 env σ Z H →
  (∀ σ', SI K T H0 Z0 env' σ' Z H → wipe σ' vs = wipe σ vs → Q σ' H) → g v σ H Q
def gtName (i : Nat) : GT := fun d ρ => some (ρ.set i (some (.fro d)))
theorem wipe_set {σ : St} {i : Nat} {x : Option V} : ∀ {vs : List Nat}, i ∈ vs → wipe (σ.set i x) vs = wipe σ vs
  | [], h => by simp at h
  | v :: vs, h => by
    by_cases hv : i ∈ vs
    · show (wipe (σ.set i x) vs).set v none = (wipe σ vs).set v none
      rw [wipe_set hv]
    · have e : i = v := by
        rcases List.mem_cons.mp h with e | e
        · exact e
        · exact absurd e hv
      subst e
      show (wipe (σ.set i x) vs).set i none = (wipe σ vs).set i none
      have comm : ∀ ws : List Nat, i ∉ ws → wipe (σ.set i x) ws = (wipe σ ws).set i x := by
        intro ws
        induction ws with
        | nil => intro _; rfl
        | cons w ws ih =>
          intro hw
          show (wipe (σ.set i x) ws).set w none = ((wipe σ ws).set w none).set i x
          rw [ih fun z => hw (List.mem_cons_of_mem _ z), List.set_comm]
          exact fun z => hw (by simp [z])
      rw [comm vs hv, List.set_set]
theorem tg_name {K : PySem.W.Frag} {T : Tab} {i : Nat} {vs : List Nat} (h : i ∈ vs) : TgD K T (gName i) (gtName i) vs := fun H0 Z0 env env' σ Z H d v Q e r s q => by
  cases e
  exact q _ (s.setFro r) (wipe_set h)
/-- several names for a tuple -/
def gtNames : List Nat → List Dt → PEnv → Option PEnv
  | [], [], ρ => some ρ
  | i :: is, d :: ds, ρ => gtNames is ds (ρ.set i (some (.fro d)))
  | _, _, _ => none
def gtTup (is : List Nat) : GT := fun d ρ => match d with
  | .tup ds => gtNames is ds ρ
  | _ => none
def gNames : List Nat → TGs
  | [] => gNil
  | i :: is => gCons (gName i) (gNames is)
theorem names_run {K : PySem.W.Frag} {T : Tab} {vs : List Nat} : ∀ {is : List Nat} {ds : List Dt} {xs : List V} {H0 : Hp} {Z0 : Hx} {env env' : PEnv} {σ : St} {Z H : Hp} {Q : St → Hp → Prop}, (∀ i ∈ is, i ∈ vs) → gtNames is ds env = some env' → Reps K T Z ds xs → SI K T H0 Z0 env σ Z H →
    (∀ σ', SI K T H0 Z0 env' σ' Z H → wipe σ' vs = wipe σ vs → Q σ' H) → gNames is xs σ H Q
  | [], [], xs, _, _, _, _, _, _, _, _, _, e, r, s, q => by
    cases e
    exact ⟨r.nil_inv, q _ s rfl⟩
  | i :: is, d :: ds, xs, _, _, _, _, _, _, _, _, hv, e, r, s, q => by
    obtain ⟨x, r', rfl, r1, r2⟩ := r.cons_inv
    refine ⟨x, r', rfl, ?_⟩
    exact names_run (is := is) (fun j hj => hv j (List.mem_cons_of_mem _ hj)) e r2 (s.setFro r1) fun σ' s' w => q σ' s' (w.trans (wipe_set (hv i (by simp))))
  | [], _ :: _, _, _, _, _, _, _, _, _, _, _, e, _, _, _ => by cases e
  | _ :: _, [], _, _, _, _, _, _, _, _, _, _, e, _, _, _ => by cases e
theorem gtNames_len : ∀ {is : List Nat} {ds : List Dt} {ρ ρ' : PEnv}, gtNames is ds ρ = some ρ' → is.length = ds.length
  | [], [], _, _, _ => rfl
  | _ :: _, _ :: _, _, _, h => congrArg Nat.succ (gtNames_len h)
  | [], _ :: _, _, _, h => by cases h
  | _ :: _, [], _, _, h => by cases h
theorem tg_tup {K : PySem.W.Frag} {T : Tab} {is vs : List Nat} {n : Nat} (hn : n = is.length) (h : ∀ i ∈ is, i ∈ vs) : TgD K T (gTup K n (gNames is)) (gtTup is) vs := fun H0 Z0 env env' σ Z H d v Q e r s q => by
  unfold gtTup at e
  split at e
  · rename_i ds
    simp only [Rep] at r
    obtain ⟨p, xs, rfl, h1, h2⟩ := r
    exact ⟨p, xs, rfl, s.zh.seqT h1, by rw [h2.length, hn, gtNames_len e], names_run h e h2 s q⟩
  · cases e
/-- (a, b, ..) = value -/
def sSetT (is : List Nat) (f : FE) : FS := fun ρ => bndS ρ (f ρ) fun r => bndS ρ (frz r) fun d => match gtTup is d ρ with
  | some ρ' => some (.nx ρ')
  | none => none
section
variable {X : Cx} {T : Tab} {W : WX} {e : Expr} {es : List Expr} {f : FE} {pos tpos : Pos} {k : Nat}
theorem pds_setT (is : List Nat) (hc : X.calm = true) (hg : PGs X es (gNames is)) (he : PD X T W e f) (hn : (assignEach es X.env).length = is.length := by rfl) (hst : (assignEach es X.env).findIdx? (·.1) = none := by rfl)
    (hs : swapsWithSole [.Tuple es k tpos] e pos.line X.env = pure false := by rfl) (hw : swappedStores [.Tuple es k tpos] e X.env = pure none := by rfl)
    (h1 : (assignEach [.Tuple es k tpos] X.env).map (·.2) = [assign (.Tuple es k tpos) X.env] := by rfl) : PDS X T W (.Assign [.Tuple es k tpos] e pos) (sSetT is f) := by
  refine PS.imp (ps_asg he (pg_tup hc hg hn hst) hs hw h1) fun D σ H ⟨H0, Z0, env, Z, out, h, s, p⟩ => ?_
  refine tD_bndSF h s p fun d v Z1 H1 hk e1 rd s1 => ?_
  split at hk
  · rename_i ρ' hρ
    cases hk
    exact tg_tup (vs := is) rfl (fun _ h => h) H0 Z0 env ρ' σ Z1 H1 d v D.nx hρ rd s1 fun σ' s' _ => p.nx _ rfl σ' Z1 H1 s'
  · cases hk
theorem pgs_name {i : Nat} {is : List Nat} {x : Str} {xp : Pos} (hN : X.N.Nodup) (h : PGs X es (gNames is)) (hi : X.N[i]? = some x := by rfl) (hx : Loc X.env.scope x := by first | exact Or.inl rfl | exact Or.inr rfl)
    (hs : (assignEach (.Name x xp :: es) X.env).map (·.2) = assign (.Name x xp) X.env :: (assignEach es X.env).map (·.2) := by rfl) (hf : X.fn x = true ∨ X.env.scope.names.lookup x = some .local := by first | exact .inl rfl | exact .inr rfl) : PGs X (.Name x xp :: es) (gNames (i :: is)) := pgs_cons (pg_name hN hi hx hf) h hs
theorem pgs_none : PGs X [] (gNames []) := pgs_nil
end

/-! ### what is walked -/
/-- from (Z1, H1) on the iterator J yields the data ds -/
def ItD (K : PySem.W.Frag) (T : Tab) (J : It) (Z1 H1 : Hp) (ds : List Dt) : Prop :=
  (∀ (i : Nat) (d : Dt) (Z H : Hp), Le Z1 Z → Le Z H → ds[i]? = some d → J.go i H ∧ ∀ x H', J.yld i H x H' → ∃ Z', Ext4 Z H Z' H' ∧ Rep K T Z' d x) ∧
  ∀ (i : Nat) (Z H : Hp), Le Z1 Z → Le Z H → ds.length ≤ i → J.stop i H
abbrev FIt := PEnv → M (List Dt)
structure PostI (K : PySem.W.Frag) (T : Tab) (Z H : Hp) (σ : St) (W : WX) (R : It → Hp → Prop) (out : Ex (List Dt)) : Prop where
  ok : ∀ ds, out = .ok ds → ∀ J Z' H', Ext4 Z H Z' H' → ItD K T J Z' H' ds → R J H'
  ex : ∀ c ds, out = .ex c ds → ∀ cls d Z' H', Ext4 Z H Z' H' → XRep K T Z' H' cls d c ds → W cls d σ H'
def tDI (K : PySem.W.Frag) (T : Tab) (W : WX) (f : FIt) : TI := fun σ H R => ∃ H0 Z0 env Z out, f env = some out ∧ SI K T H0 Z0 env σ Z H ∧ PostI K T Z H σ W R out
abbrev PDI (X : Cx) (T : Tab) (W : WX) (tg e : Expr) (f : FIt) : Prop := PI X tg e (tDI X.K T W f)
theorem PI.imp {X : Cx} {tg e : Expr} {t t' : TI} (h : PI X tg e t) (i : ∀ σ H R, t' σ H R → t σ H R) : PI X tg e t' := ⟨fun pins s σ H R I q => h.run pins s σ H R I (i σ H R q)⟩
theorem PI.or {X : Cx} {tg e : Expr} {t t' : TI} (h : PI X tg e t) (h' : PI X tg e t') : PI X tg e (fun σ H R => t σ H R ∨ t' σ H R) := ⟨fun pins s σ H R I q => q.elim (h.run pins s σ H R I) (h'.run pins s σ H R I)⟩
theorem itD_list {K : PySem.W.Frag} {T : Tab} {Z1 H1 : Hp} {a : Addr} {vs : List V} {ds : List Dt} (h : SqL K Z1 a vs) (r : Reps K T Z1 ds vs) : ItD K T (Itl K a) Z1 H1 ds := by
  refine ⟨fun i d Z H l1 l2 hd => ?_, fun i Z H l1 l2 hi => ⟨vs, l2.seqL (l1.seqL h), by rw [r.length]; exact hi⟩⟩
  obtain ⟨w, g1, g2⟩ := r.get hd
  refine ⟨⟨vs, w, l2.seqL (l1.seqL h), g1⟩, fun x H' ⟨e, y⟩ => ?_⟩
  subst e
  have := y vs (l2.seqL (l1.seqL h))
  rw [g1] at this
  cases this
  exact ⟨Z, Ext4.refl l2, g2.mono l1⟩
theorem itD_tup {K : PySem.W.Frag} {T : Tab} {Z1 H1 : Hp} {a : Addr} {vs : List V} {ds : List Dt} (h : SqT K Z1 a vs) (r : Reps K T Z1 ds vs) : ItD K T (Itt K a) Z1 H1 ds := by
  refine ⟨fun i d Z H l1 l2 hd => ?_, fun i Z H l1 l2 hi => ⟨vs, l2.seqT (l1.seqT h), by rw [r.length]; exact hi⟩⟩
  obtain ⟨w, g1, g2⟩ := r.get hd
  refine ⟨⟨vs, w, l2.seqT (l1.seqT h), g1⟩, fun x H' ⟨e, y⟩ => ?_⟩
  subst e
  have := y vs (l2.seqT (l1.seqT h))
  rw [g1] at this
  cases this
  exact ⟨Z, Ext4.refl l2, g2.mono l1⟩
def asSeq : Dt → Option (List Dt)
  | .lst ds => some ds
  | .tup ds => some ds
  | _ => none
/-- a list or a tuple that stands -/
def iSeq (f : FE) : FIt := fun ρ => bnd (f ρ) fun r => bnd (frz r) fun d => match asSeq d with
  | some ds => some (.ok ds)
  | none => none
def intsFrom (a : Int) : Nat → List Dt
  | 0 => []
  | n + 1 => .int a :: intsFrom (a + 1) n
theorem intsFrom_length (a : Int) (n : Nat) : (intsFrom a n).length = n := by
  induction n generalizing a with
  | zero => rfl
  | succ n ih => simp [intsFrom, ih]
theorem intsFrom_get (a : Int) (n i : Nat) {d : Dt} (h : (intsFrom a n)[i]? = some d) : i < n ∧ d = .int (a + i) := by
  induction n generalizing a i with
  | zero => simp [intsFrom] at h
  | succ n ih =>
    cases i with
    | zero => simp [intsFrom] at h; exact ⟨by omega, by rw [← h]; simp⟩
    | succ i =>
      obtain ⟨h1, h2⟩ := ih (a + 1) i (by simpa [intsFrom] using h)
      refine ⟨by omega, ?_⟩
      rw [h2]
      congr 1
      omega
/-- a, a + c, .. (n of them) -/
def intsBy (a c : Int) : Nat → List Dt
  | 0 => []
  | n + 1 => .int a :: intsBy (a + c) c n
theorem intsBy_length (a c : Int) (n : Nat) : (intsBy a c n).length = n := by
  induction n generalizing a with
  | zero => rfl
  | succ n ih => simp [intsBy, ih]
theorem intsBy_get (a c : Int) (n i : Nat) {d : Dt} (h : (intsBy a c n)[i]? = some d) : i < n ∧ d = .int (a + i * c) := by
  induction n generalizing a i with
  | zero => simp [intsBy] at h
  | succ n ih =>
    cases i with
    | zero => simp [intsBy] at h; exact ⟨by omega, by rw [← h]; simp⟩
    | succ i =>
      obtain ⟨h1, h2⟩ := ih (a + c) i (by simpa [intsBy] using h)
      refine ⟨by omega, ?_⟩
      rw [h2]
      congr 1
      have : ((i + 1 : Nat) : Int) * c = (i : Int) * c + c := by
        rw [Int.natCast_add, Int.add_mul]; simp
      omega
theorem itD_rng {K : PySem.W.Frag} {T : Tab} {Z1 H1 : Hp} {lo : Int} {n : Nat} : ItD K T (Itr lo n) Z1 H1 (intsFrom lo n) := by
  refine ⟨fun i d Z H l1 l2 hd => ?_, fun i Z H l1 l2 hi => ?_⟩
  · obtain ⟨h1, rfl⟩ := intsFrom_get lo n i hd
    exact ⟨h1, fun x H' ⟨e, y⟩ => by subst e; subst y; exact ⟨Z, Ext4.refl l2, by simp only [Rep]⟩⟩
  · show n ≤ i
    rw [intsFrom_length] at hi
    exact hi
theorem itD_rngC {K : PySem.W.Frag} {T : Tab} {Z1 H1 : Hp} {lo c : Int} {n : Nat} : ItD K T (Itc lo c n) Z1 H1 (intsBy lo c n) := by
  refine ⟨fun i d Z H l1 l2 hd => ?_, fun i Z H l1 l2 hi => ?_⟩
  · obtain ⟨h1, rfl⟩ := intsBy_get lo c n i hd
    exact ⟨h1, fun x H' ⟨e, y⟩ => by subst e; subst y; exact ⟨Z, Ext4.refl l2, by simp only [Rep]⟩⟩
  · show n ≤ i
    rw [intsBy_length] at hi
    exact hi
def rOk (i : Int) : Bool := decide (-(2 ^ 62) ≤ i) && decide (i < 2 ^ 62)
theorem rOk_iff {i : Int} (h : rOk i = true) : -(2 ^ 62) ≤ i ∧ i < 2 ^ 62 := by
  unfold rOk at h
  rw [Bool.and_eq_true, decide_eq_true_eq, decide_eq_true_eq] at h
  exact h
def iRng1 (f : FE) : FIt := fun ρ => bnd (f ρ) fun r => bnd (asI r) fun n => if rOk n then some (.ok (intsFrom 0 n.toNat)) else none
def iRng2 (f g : FE) : FIt := fun ρ => bnd (f ρ) fun r => bnd (g ρ) fun q => bnd (asI r) fun a => bnd (asI q) fun b => if rOk a && rOk b then some (.ok (intsFrom a (b - a).toNat)) else none
/-- range(a, b, -1) -/
def iRngD (f g : FE) : FIt := fun ρ => bnd (f ρ) fun r => bnd (g ρ) fun q => bnd (asI r) fun a => bnd (asI q) fun b => if rOk a && rOk b then some (.ok (intsBy a (-1) (a - b).toNat)) else none
section
variable {K : PySem.W.Frag} {T : Tab} {W : WX} {H0 Z H : Hp} {Z0 : Hx} {env : PEnv} {σ : St} {R : It → Hp → Prop} {out : Ex (List Dt)}
theorem PostI.step {Z1 H1 : Hp} (p : PostI K T Z H σ W R out) (e : Ext4 Z H Z1 H1) : PostI K T Z1 H1 σ W R out :=
  ⟨fun ds h J Z' H' e' => p.ok ds h J Z' H' (e.trans e'), fun c ds h cls d Z' H' e' x => p.ex c ds h cls d Z' H' (e.trans e') x⟩
theorem tD_bndI {fa : FE} {k : Rs → M (List Dt)} {G : VK} (h : bnd (fa env) k = some out) (s : SI K T H0 Z0 env σ Z H) (p : PostI K T Z H σ W R out)
    (go : ∀ r v Z1 H1, k r = some out → Ext4 Z H Z1 H1 → RRep K T H Z1 H1 v r → SI K T H0 Z0 env σ Z1 H1 → PostI K T Z1 H1 σ W R out → G v H1) : tD K T W fa σ H G := by
  rcases bnd_cases h with ⟨c, ds, e1, e2⟩ | ⟨r, e1, e2⟩
  · exact ⟨H0, Z0, env, Z, _, e1, s, fun r q => (nomatch q), fun c' ds' q cls d Z' H' e x => by cases q; exact p.ex _ _ e2 cls d Z' H' e x⟩
  · refine ⟨H0, Z0, env, Z, _, e1, s, fun r' q v Z' H' e rr => ?_, fun c' ds' q => (nomatch q)⟩
    cases q
    exact go r v Z' H' e2 e rr (s.step e) (p.step e)
theorem asI_inv {r : Rs} {α : Type} {k : Int → M α} {o : Ex α} (h : bnd (asI r) k = some o) : ∃ i, r = .fro (.int i) ∧ k i = some o := by
  rcases bnd_cases h with ⟨c, ds, e1, _⟩ | ⟨i, e1, e2⟩
  · unfold asI at e1; split at e1 <;> cases e1
  · unfold asI at e1
    split at e1
    · cases e1; exact ⟨_, rfl, e2⟩
    · cases e1
variable {X : Cx} {tg e a b : Expr} {f fa fb : FE} {p pos : Pos}
theorem pdi_seq (he : PD X T W e f) : PDI X T W tg e (iSeq f) := by
  refine PI.imp (PI.or (pi_list he) (pi_tup he)) fun σ H R ⟨H0, Z0, env, Z, out, h, s, p⟩ => ?_
  unfold iSeq at h
  rcases bnd_cases h with ⟨c, ds, q1, q2⟩ | ⟨r, q1, q2⟩
  · exact .inl ⟨H0, Z0, env, Z, _, q1, s, fun r q => (nomatch q), fun c' ds' q cls d Z' H' e x => by cases q; exact p.ex _ _ q2 cls d Z' H' e x⟩
  · rcases bnd_cases q2 with ⟨c, ds, q3, q4⟩ | ⟨d, q3, q4⟩
    · cases r <;> cases q3
    · cases d with
      | lst ds =>
        cases q4
        refine .inl ⟨H0, Z0, env, Z, _, q1, s, fun r' q v Z' H' x rr => ?_, fun c' ds' q => (nomatch q)⟩
        cases q
        obtain ⟨Z2, x2, _, rd⟩ := rr.freeze q3 x
        simp only [Rep] at rd
        obtain ⟨q, vs, rfl, g1, g2⟩ := rd
        exact ⟨q, rfl, ⟨vs, x2.zh.seqL g1⟩, p.ok _ rfl _ Z2 H' x2 (itD_list g1 g2)⟩
      | tup ds =>
        cases q4
        refine .inr ⟨H0, Z0, env, Z, _, q1, s, fun r' q v Z' H' x rr => ?_, fun c' ds' q => (nomatch q)⟩
        cases q
        obtain ⟨Z2, x2, _, rd⟩ := rr.freeze q3 x
        simp only [Rep] at rd
        obtain ⟨q, vs, rfl, g1, g2⟩ := rd
        exact ⟨q, rfl, ⟨vs, x2.zh.seqT g1⟩, p.ok _ rfl _ Z2 H' x2 (itD_tup g1 g2)⟩
      | _ => cases q4
theorem pdi_rng1 (hm : X.mg "range" = none) (ha : PD X T W a fa) (hg : Gl X "range" := by rfl) (hs : starEach [a] X.env = [(false, eval a X.env)] := by rfl) : PDI X T W tg (.Call (.Name "range" p) [a] [] pos) (iRng1 fa) := by
  refine PI.imp (pi_range1 hg hm (pa_cons ha pa_nil hs) hs) fun σ H R ⟨H0, Z0, env, Z, out, h, s, p⟩ => ?_
  refine tD_bndI h s p fun r v Z1 H1 hk e1 rr s1 p1 => ?_
  obtain ⟨n, en, hk'⟩ := asI_inv hk
  subst en
  split at hk'
  · rename_i ho
    cases hk'
    simp only [RRep, Rep] at rr
    subst rr
    exact ⟨n, rfl, (rOk_iff ho).1, (rOk_iff ho).2, p1.ok _ rfl _ Z1 H1 (Ext4.refl e1.zh) itD_rng⟩
  · cases hk'
theorem pdi_rng2 (hm : X.mg "range" = none) (ha : PD X T W a fa) (hb : PD X T W b fb) (hg : Gl X "range" := by rfl) (hs : starEach [a, b] X.env = [(false, eval a X.env), (false, eval b X.env)] := by rfl) (hs2 : starEach [b] X.env = [(false, eval b X.env)] := by rfl) (hs3 : starEach [a, b] X.env = (false, eval a X.env) :: starEach [b] X.env := by rfl) :
    PDI X T W tg (.Call (.Name "range" p) [a, b] [] pos) (iRng2 fa fb) := by
  refine PI.imp (pi_range2 hg hm (pa_cons ha (pa_cons hb pa_nil hs2) hs3) hs hs2) fun σ H R ⟨H0, Z0, env, Z, out, h, s, p⟩ => ?_
  refine tD_bndI h s p fun r v Z1 H1 hk e1 rr s1 p1 => ?_
  refine tD_bndI hk s1 p1 fun r2 v2 Z2 H2 hk2 e2 rr2 s2 p2 => ?_
  obtain ⟨a, ea, hk3⟩ := asI_inv hk2
  obtain ⟨b, eb, hk4⟩ := asI_inv hk3
  subst ea eb
  split at hk4
  · rename_i ho
    rw [Bool.and_eq_true] at ho
    cases hk4
    simp only [RRep, Rep] at rr rr2
    subst rr rr2
    exact ⟨a, b, rfl, ⟨(rOk_iff ho.1).1, (rOk_iff ho.1).2, (rOk_iff ho.2).1, (rOk_iff ho.2).2⟩, p2.ok _ rfl _ Z2 H2 (Ext4.refl e2.zh) itD_rng⟩
  · cases hk4
theorem pdi_rngD {jj : Nat} {p1 p2 : Pos} (hm : X.mg "range" = none) (ha : PD X T W a fa) (hb : PD X T W b fb) (hg : Gl X "range" := by rfl)
    (hs : starEach [a, b, .UnaryOp .USub (.Constant (.int 1) jj p1) p2] X.env = (false, eval a X.env) :: starEach [b, .UnaryOp .USub (.Constant (.int 1) jj p1) p2] X.env := by rfl)
    (hs2 : starEach [b, .UnaryOp .USub (.Constant (.int 1) jj p1) p2] X.env = (false, eval b X.env) :: starEach [.UnaryOp .USub (.Constant (.int 1) jj p1) p2] X.env := by rfl)
    (hpl : (backTo pos (starEach [b, .UnaryOp .USub (.Constant (.int 1) jj p1) p2] X.env)).any (·.1) = false := by rfl) :
    PDI X T W tg (.Call (.Name "range" p) [a, b, .UnaryOp .USub (.Constant (.int 1) jj p1) p2] [] pos) (iRngD fa fb) := by
  refine PI.imp (pi_range3 hg hm (pa_cons ha (pa_cons hb (pa_cons (pe_un un_neg (pe_int)) pa_nil (by rfl)) hs2) hs) hs hpl) fun σ H R ⟨H0, Z0, env, Z, out, h, s, p⟩ => ?_
  refine tD_bndI h s p fun r v Z1 H1 hk e1 rr s1 p1 => ?_
  refine tD_bndI hk s1 p1 fun r2 v2 Z2 H2 hk2 e2 rr2 s2 p2 => ?_
  obtain ⟨a, ea, hk3⟩ := asI_inv hk2
  obtain ⟨b, eb, hk4⟩ := asI_inv hk3
  subst ea eb
  split at hk4
  · rename_i ho
    rw [Bool.and_eq_true] at ho
    cases hk4
    simp only [RRep, Rep] at rr rr2
    subst rr rr2
    have o1 := rOk_iff ho.1
    have o2 := rOk_iff ho.2
    exact ⟨1, rfl, a, b, -1, _, rfl, RgC.neg (by omega) (by omega) (by omega) (by omega), p2.ok _ rfl _ Z2 H2 (Ext4.refl e2.zh) itD_rngC⟩
  · cases hk4
end

/-! ### for -/
def forD (gt : GT) (body : FS) : List Dt → PEnv → Option Out
  | [], ρ => some (.nx ρ)
  | d :: ds, ρ => match gt d ρ with
    | none => none
    | some ρ1 => match body ρ1 with
      | some (.nx ρ2) => forD gt body ds ρ2
      | some (.ct ρ2) => forD gt body ds ρ2
      | some (.bk ρ2) => some (.nx ρ2)
      | o => o
def sFor (g : FIt) (gt : GT) (body : FS) : FS := fun ρ => bndS ρ (g ρ) fun ds => forD gt body ds ρ
theorem SI.up {K : PySem.W.Frag} {T : Tab} {H0 Z1 H1 : Hp} {Z0 : Hx} {env : PEnv} {σ : St} (s : SI K T H0 Z0 env σ Z1 H1) : SI K T H0 (Z1, Z0.2) env σ Z1 H1 :=
  ⟨⟨s.ext.hh, Le.refl _, s.ext.zh, fun _ _ => rfl⟩, s.len, s.cell, s.sep, s.me⟩
theorem SI.down {K : PySem.W.Frag} {T : Tab} {H0 Z1 H1 Z H : Hp} {Z0 : Hx} {env : PEnv} {σ : St} (b : Ext4 Z0.1 H0 Z1 H1) (s : SI K T H0 (Z1, Z0.2) env σ Z H) : SI K T H0 Z0 env σ Z H :=
  ⟨⟨s.ext.hh, b.zz.trans s.ext.zz, s.ext.zh, fun a h => (s.ext.st a h).trans (b.st a h)⟩, s.len, s.cell, s.sep, s.me⟩
theorem Ext4.down {H0 Z0 Z1 H1 Z H : Hp} (b : Ext4 Z0 H0 Z1 H1) (s : Ext4 Z1 H0 Z H) : Ext4 Z0 H0 Z H := ⟨s.hh, b.zz.trans s.zz, s.zh, fun a h => (s.st a h).trans (b.st a h)⟩
section
variable {X : Cx} {T : Tab} {W : WX} {tg iter : Expr} {g : FIt} {gt : GT} {tgr : TG} {body : List Stmt} {F : FS} {pos : Pos} {vs : List Nat}
theorem pds_for (hp : PassesOwn (model X.prog X.w) X.A X.env X.xe) (hc : X.calm = true) (hi : PDI X T W tg iter g) (hg : PG X tg tgr) (ht : TgD X.K T tgr gt vs) (hb : PDSs X T W body F) (hs : ∀ x, foldedSetIterable iter X.env x = pure x := by intro _; rfl) :
    PDS X T W (.For tg iter body [] pos) (sFor g gt F) := by
  refine PS.imp (ps_for hp hc hi hg hb hs) fun D σ H ⟨H0, Z0, env, Z, out, h, s, p⟩ => ?_
  unfold sFor at h
  show tDI X.K T W g σ H _
  rcases bndS_cases h with ⟨c, ds, e1, e2⟩ | ⟨ds, e1, e2⟩
  · exact ⟨H0, Z0, env, Z, _, e1, s, fun r q => (nomatch q), fun c' ds' q cls d Z' H' e x => by cases q; exact p.xc _ _ _ e2 cls d σ Z' H' (s.step e) x⟩
  · refine ⟨H0, Z0, env, Z, _, e1, s, fun ds' q J Z1 H1 x1 it => ?_, fun c' ds' q => (nomatch q)⟩
    cases q
    have b1 : Ext4 Z0.1 H0 Z1 H1 := s.ext.trans x1
    refine ⟨fun i m σ' H' => ∃ env' Z', i ≤ ds.length ∧ m = ds.length - i ∧ SI X.K T H0 (Z1, Z0.2) env' σ' Z' H' ∧ forD gt F (ds.drop i) env' = some out, ⟨_, env, Z1, Nat.zero_le _, rfl, (s.step x1).up, e2⟩, ?_⟩
    rintro i m σ' H' ⟨env', Z', hi', rfl, s', hf⟩
    have l' : Le Z1 Z' := s'.ext.zz
    by_cases hlt : i < ds.length
    · obtain ⟨go, yl⟩ := it.1 i ds[i] Z' H' l' s'.zh (by simp [hlt])
      rw [List.drop_eq_getElem_cons hlt] at hf
      unfold forD at hf
      split at hf
      · cases hf
      · rename_i ρ1 hρ1
        refine .inr ⟨go, fun σ2 H2 => ∃ env2 Z2, SI X.K T H0 (Z1, Z0.2) env2 σ2 Z2 H2 ∧ forD gt F (ds.drop (i + 1)) env2 = some out, fun σ2 H2 ⟨env2, Z2, a1, a3⟩ => ⟨_, by omega, env2, Z2, hlt, rfl, a1, a3⟩, fun x H2 y => ?_⟩
        obtain ⟨Z2, x2, rd⟩ := yl x H2 y
        refine ht H0 (Z1, Z0.2) env' ρ1 σ' Z2 H2 _ x _ hρ1 rd (s'.step x2) fun σ3 s3 _ => ?_
        -- the body
        cases hF : F ρ1 with
        | none => rw [hF] at hf; cases hf
        | some o =>
          rw [hF] at hf
          refine ⟨H0, (Z1, Z0.2), ρ1, Z2, o, hF, s3, fun env4 e σ4 Z4 H4 s4 => ?_, fun r e v Z4 H4 x4 r4 => ?_, fun env4 e σ4 Z4 H4 s4 => ?_, fun env4 e σ4 Z4 H4 s4 => ?_, fun c es env4 e cls d σ4 Z4 H4 s4 xr => ?_⟩
          · subst e; exact ⟨env4, Z4, s4, hf⟩
          · subst e; cases hf; exact p.rt _ rfl v Z4 H4 (b1.down x4) r4
          · subst e; cases hf; exact p.nx _ rfl σ4 Z4 H4 (s4.down b1)
          · subst e; exact ⟨env4, Z4, s4, hf⟩
          · subst e; cases hf; exact p.xc _ _ _ rfl cls d σ4 Z4 H4 (s4.down b1) xr
    · have e : i = ds.length := by omega
      subst e
      rw [List.drop_length] at hf
      cases hf
      exact .inl ⟨it.2 _ Z' H' l' s'.zh (Nat.le_refl _), p.nx _ rfl σ' Z' H' (s'.down b1)⟩
end

/-! ### while -/
def whileD (t : FT) (body : FS) : Nat → PEnv → Option Out
  | 0, _ => none
  | m + 1, ρ => bndS ρ (t ρ) fun b => if b then match body ρ with
      | some (.nx ρ2) => whileD t body m ρ2
      | some (.ct ρ2) => whileD t body m ρ2
      | some (.bk ρ2) => some (.nx ρ2)
      | o => o
    else some (.nx ρ)
open Classical in
noncomputable def sWhile (t : FT) (body : FS) : FS := fun ρ => if h : ∃ m o, whileD t body m ρ = some o then some (Classical.choose (Classical.choose_spec h)) else none
theorem whileD_more {t : FT} {body : FS} : ∀ {m : Nat} {ρ : PEnv} {o : Out}, whileD t body m ρ = some o → ∀ k, whileD t body (m + k) ρ = some o
  | 0, _, _, h, _ => by cases h
  | m + 1, ρ, o, h, k => by
    have e : m + 1 + k = (m + k) + 1 := by omega
    rw [e]
    unfold whileD at h ⊢
    rcases bndS_cases h with ⟨c, ds, e1, e2⟩ | ⟨b, e1, e2⟩
    · rw [e1]; exact congrArg some e2.symm
    · rw [e1]
      show (if b then _ else _) = _
      cases b with
      | false => exact e2
      | true =>
        simp only [if_true] at e2 ⊢
        cases hb : body ρ with
        | none => rw [hb] at e2; cases e2
        | some q =>
          rw [hb] at e2
          cases q with
          | nx ρ2 => exact whileD_more (m := m) e2 k
          | ct ρ2 => exact whileD_more (m := m) e2 k
          | bk ρ2 => exact e2
          | rt r => exact e2
          | xc c ds e => exact e2
theorem sWhile_of {t : FT} {body : FS} {m : Nat} {ρ : PEnv} {o : Out} (h : whileD t body m ρ = some o) : sWhile t body ρ = some o := by
  have hex : ∃ m o, whileD t body m ρ = some o := ⟨m, o, h⟩
  unfold sWhile
  rw [dif_pos hex]
  have sp := Classical.choose_spec (Classical.choose_spec hex)
  have a := whileD_more sp m
  have b := whileD_more h (Classical.choose hex)
  rw [Nat.add_comm] at b
  rw [a] at b
  exact b
theorem sWhile_inv {t : FT} {body : FS} {ρ : PEnv} {o : Out} (h : sWhile t body ρ = some o) : ∃ m, whileD t body m ρ = some o := by
  unfold sWhile at h
  split at h
  · rename_i hex
    have sp := Classical.choose_spec (Classical.choose_spec hex)
    exact ⟨_, by rw [sp]; exact h⟩
  · cases h
section
variable {X : Cx} {T : Tab} {W : WX} {c : Expr} {t : FT} {body : List Stmt} {F : FS} {pos : Pos}
theorem pds_while (hp : PassesOwn (model X.prog X.w) X.A X.env X.xe) (hc : PDT X T W c t) (hb : PDSs X T W body F) : PDS X T W (.While c body [] pos) (sWhile t F) := by
  refine PS.imp (ps_while hp hc hb) fun D σ H ⟨H0, Z0, env, Z, out, h, s, p⟩ => ?_
  obtain ⟨m0, h⟩ := sWhile_inv h
  refine ⟨fun m σ' H' => ∃ env' Z', SI X.K T H0 Z0 env' σ' Z' H' ∧ whileD t F m env' = some out, ⟨m0, env, Z, s, h⟩, ?_⟩
  rintro m σ' H' ⟨env', Z', s', hf⟩
  cases m with
  | zero => cases hf
  | succ m =>
    unfold whileD at hf
    refine tDT_bndS hf s' p fun b Z1 H1 hk e1 s1 => ?_
    cases b with
    | false => cases hk; exact iteF (p.nx _ rfl σ' Z1 H1 s1)
    | true =>
      refine iteT ⟨fun σ2 H2 => ∃ env2 Z2, SI X.K T H0 Z0 env2 σ2 Z2 H2 ∧ whileD t F m env2 = some out, fun σ2 H2 ⟨env2, Z2, a1, a2⟩ => ⟨m, Nat.lt_succ_self _, env2, Z2, a1, a2⟩, ?_⟩
      simp only [if_true] at hk
      cases hF : F env' with
      | none => rw [hF] at hk; cases hk
      | some o =>
        rw [hF] at hk
        refine ⟨H0, Z0, env', Z1, o, hF, s1, fun env4 e σ4 Z4 H4 s4 => ?_, fun r e v Z4 H4 x4 r4 => ?_, fun env4 e σ4 Z4 H4 s4 => ?_, fun env4 e σ4 Z4 H4 s4 => ?_, fun c es env4 e cls d σ4 Z4 H4 s4 xr => ?_⟩
        · subst e; exact ⟨env4, Z4, s4, hk⟩
        · subst e; cases hk; exact p.rt _ rfl v Z4 H4 x4 r4
        · subst e; cases hk; exact p.nx _ rfl σ4 Z4 H4 s4
        · subst e; exact ⟨env4, Z4, s4, hk⟩
        · subst e; cases hk; exact p.xc _ _ _ rfl cls d σ4 Z4 H4 s4 xr
end

/-! ### comprehensions -/
def wipeE (ρ : PEnv) : List Nat → PEnv
  | [] => ρ
  | v :: vs => (wipeE ρ vs).set v none
theorem SI.setNone {K : PySem.W.Frag} {T : Tab} {H0 Z H : Hp} {Z0 : Hx} {env : PEnv} {σ : St} (s : SI K T H0 Z0 env σ Z H) (i : Nat) : SI K T H0 Z0 (env.set i none) (σ.set i none) Z H := by
  have at_ : ∀ (j : Nat) (c : Cel), (env.set i none)[j]? = some (some c) → i ≠ j ∧ env[j]? = some (some c) := fun j c h => by
    by_cases e : i = j
    · subst e
      by_cases hl : i < env.length
      · rw [List.getElem?_set_self hl] at h; cases h
      · rw [List.getElem?_eq_none (by simpa using hl)] at h; cases h
    · rw [List.getElem?_set_ne e] at h; exact ⟨e, h⟩
  have own_ : ∀ j : Nat, isOwnC ((env.set i none)[j]?) → i ≠ j ∧ isOwnC env[j]? := fun j h => by
    by_cases e : i = j
    · subst e
      by_cases hl : i < env.length
      · rw [List.getElem?_set_self hl] at h; exact h.elim
      · rw [List.getElem?_eq_none (by simpa using hl)] at h; exact h.elim
    · rw [List.getElem?_set_ne e] at h; exact ⟨e, h⟩
  refine ⟨s.ext, by simp [s.len], fun j c h => ?_, fun j k v hjk h1 h2 h3 h4 => ?_, fun j c ds v h h' => ?_⟩
  · obtain ⟨e, h⟩ := at_ j c h
    obtain ⟨v, g1, g2⟩ := s.cell j c h
    exact ⟨v, by rw [List.getElem?_set_ne e]; exact g1, g2⟩
  · obtain ⟨e1, h1⟩ := own_ j h1
    obtain ⟨e2, h2⟩ := own_ k h2
    rw [List.getElem?_set_ne e1] at h3
    rw [List.getElem?_set_ne e2] at h4
    exact s.sep j k v hjk h1 h2 h3 h4
  · obtain ⟨e, h⟩ := at_ j _ h
    rw [List.getElem?_set_ne e] at h'
    exact s.me j _ _ _ h h'
theorem SI.wipe {K : PySem.W.Frag} {T : Tab} {H0 Z H : Hp} {Z0 : Hx} {env : PEnv} {σ : St} (s : SI K T H0 Z0 env σ Z H) : ∀ vs : List Nat, SI K T H0 Z0 (wipeE env vs) (L2.wipe σ vs) Z H
  | [] => s
  | v :: vs => (s.wipe vs).setNone v
theorem wipe_idem {σ : St} : ∀ vs : List Nat, L2.wipe (L2.wipe σ vs) vs = L2.wipe σ vs := fun vs => by
  have set_none : ∀ (ws : List Nat) (i : Nat) (τ : St), i ∈ ws → (L2.wipe τ ws).set i none = L2.wipe τ ws := by
    intro ws
    induction ws with
    | nil => intro i τ h; simp at h
    | cons w ws ih =>
      intro i τ h
      show ((L2.wipe τ ws).set w none).set i none = (L2.wipe τ ws).set w none
      by_cases e : w = i
      · subst e; rw [List.set_set]
      · rw [List.set_comm _ _ e, ih i τ (by rcases List.mem_cons.mp h with z | z; exact absurd z.symm e; exact z)]
  have gen : ∀ (ws us : List Nat), (∀ w ∈ ws, w ∈ us) → L2.wipe (L2.wipe σ us) ws = L2.wipe σ us := by
    intro ws
    induction ws with
    | nil => intro us _; rfl
    | cons w ws ih =>
      intro us h
      show (L2.wipe (L2.wipe σ us) ws).set w none = _
      rw [ih us fun z hz => h z (List.mem_cons_of_mem _ hz), set_none us w σ (h w (by simp))]
  exact gen vs vs fun _ h => h
/-- the data of a comprehension's list -/
def lcD (gt : GT) (ct : FT) (elt : FE) (ρ : PEnv) : List Dt → Option (List Dt)
  | [] => some []
  | d :: ds => match gt d ρ with
    | none => none
    | some ρ1 => match ct ρ1 with
      | some (.ok true) => match bnd (elt ρ1) frz with
        | some (.ok e) => (lcD gt ct elt ρ ds).map (e :: ·)
        | _ => none
      | some (.ok false) => lcD gt ct elt ρ ds
      | _ => none
def eLc (vs : List Nat) (g : FIt) (gt : GT) (ct : FT) (elt : FE) : FE := fun ρ => bnd (g ρ) fun ds => match lcD gt ct elt (wipeE ρ vs) ds with
  | some es => if ds.length ≤ LINE then some (.ok (.own es)) else none
  | none => none
abbrev PDTs (X : Cx) (T : Tab) (W : WX) (ifs : List Expr) (f : FT) : Prop := PTs X ifs (tDT X.K T W f)
def tTrue : FT := fun _ => some (.ok true)
abbrev W0 : WX := fun _ _ _ _ => False
theorem takes_W0 {X : Cx} : Takes X W0 := fun u s' ⟨_, _, _, _, _, _, _, _, _, _, _, _, _, _, _, _, w⟩ => w.elim
theorem pdts_nil {X : Cx} {T : Tab} {W : WX} : PDTs X T W [] tTrue := ⟨fun pins s σ H Q I ⟨H0, Z0, env, Z, out, h, s0, p⟩ => by
  cases h
  exact pts_nil.run pins s σ H Q I (p.ok _ rfl Z H (Ext4.refl s0.zh))⟩
theorem pdts_one {X : Cx} {T : Tab} {W : WX} {c : Expr} {f : FT} (h : PDT X T W c f) : PDTs X T W [c] f := pts_one h
theorem lc_of {K : PySem.W.Frag} {T : Tab} {W : WX} {vs : List Nat} {g : FIt} {gt : GT} {ct : FT} {elt : FE} {tgr : TG} (ht : TgD K T tgr gt vs) {σ : St} {H : Hp} {Q : VK} (q : tD K T W (eLc vs g gt ct elt) σ H Q) :
    tLc (tDI K T W g) tgr (tDT K T W0 ct) (tD K T W0 elt) vs σ H Q := by
  obtain ⟨H0, Z0, env, Z, out, h, s, p⟩ := q
  unfold eLc at h
  show tDI K T W g σ H _
  rcases bnd_cases h with ⟨c, ds, e1, e2⟩ | ⟨ds, e1, e2⟩
  · exact ⟨H0, Z0, env, Z, _, e1, s, fun r q => (nomatch q), fun c' ds' q cls d Z' H' e x => by cases q; exact p.ex _ _ e2 cls d Z' H' e x⟩
  · refine ⟨H0, Z0, env, Z, _, e1, s, fun ds' q J Z1 H1 x1 it => ?_, fun c' ds' q => (nomatch q)⟩
    cases q
    split at e2
    · rename_i es hes
      split at e2
      · rename_i hline
        cases e2
        intro Da hD
        have s1 := (s.step x1).wipe vs
        have zD : Z1 Da = none := x1.zh.free hD
        refine ⟨fun i m H' => ∃ Z' acc done, i ≤ ds.length ∧ m = ds.length - i ∧ Ext4 Z1 H1 Z' H' ∧ H' Da = some (.lst acc) ∧ Z' Da = none ∧ Reps K T Z' done acc ∧ done.length ≤ i ∧ (lcD gt ct elt (wipeE env vs) (ds.drop i)).map (done ++ ·) = some es,
          ⟨_, Z1, [], [], Nat.zero_le _, rfl, Ext4.new x1.zh hD, upd_same, zD, .nil, Nat.le_refl _, by rw [List.drop_zero, hes]; rfl⟩, ?_⟩
        rintro i m H' ⟨Z', acc, done, hi', rfl, x', hD', zD', rs, hdl, hf⟩
        have s' := s1.step x'
        by_cases hlt : i < ds.length
        · obtain ⟨go, yl⟩ := it.1 i ds[i] Z' H' x'.zz x'.zh (by simp [hlt])
          rw [List.drop_eq_getElem_cons hlt] at hf
          refine .inr ⟨go, fun H2 => ∃ Z2 acc done, Ext4 Z1 H1 Z2 H2 ∧ H2 Da = some (.lst acc) ∧ Z2 Da = none ∧ Reps K T Z2 done acc ∧ done.length ≤ i + 1 ∧ (lcD gt ct elt (wipeE env vs) (ds.drop (i + 1))).map (done ++ ·) = some es,
            fun H2 ⟨Z2, acc, done, a1, a2, a3, a4, a5, a6⟩ => ⟨_, by omega, Z2, acc, done, hlt, rfl, a1, a2, a3, a4, a5, a6⟩, fun x H2 y => ?_⟩
          obtain ⟨Z2, x2, rd⟩ := yl x H2 y
          unfold lcD at hf
          split at hf
          · cases hf
          · rename_i ρ1 hρ1
            refine ht H0 Z0 _ ρ1 _ Z2 H2 _ x _ hρ1 rd (s'.step x2) fun σ3 s3 hw => ?_
            refine ⟨by rw [hw, wipe_idem], ?_⟩
            have x2' := x'.trans x2
            have hD2 : H2 Da = some (.lst acc) := x2.hh _ _ hD'
            have zD2 : Z2 Da = none := by rw [x2.st Da (by rw [hD']; simp)]; exact zD'
            split at hf
            · rename_i hct
              refine ⟨H0, Z0, ρ1, Z2, _, hct, s3, fun b q Z3 H3 x3 => ?_, fun c es q => (nomatch q)⟩
              cases q
              refine iteT ?_
              split at hf
              · rename_i e he
                rcases bnd_cases he with ⟨c, es', w1, w2⟩ | ⟨r, w1, w2⟩
                · cases w2
                · refine ⟨H0, Z0, ρ1, Z3, _, w1, s3.step x3, fun r' q v Z4 H4 x4 rr => ?_, fun c es q => (nomatch q)⟩
                  cases q
                  obtain ⟨Z5, x5, _, rd5⟩ := rr.freeze w2 x4
                  have hD3 : H3 Da = some (.lst acc) := x3.hh _ _ hD2
                  have zD3 : Z3 Da = none := by rw [x3.st Da (by rw [hD2]; simp)]; exact zD2
                  have hD5 : H4 Da = some (.lst acc) := x5.hh _ _ hD3
                  have zD5 : Z5 Da = none := by rw [x5.st Da (by rw [hD3]; simp)]; exact zD3
                  have x25 := (x2'.trans x3).trans x5
                  have l25 : Le Z' Z5 := x2.zz.trans (x3.zz.trans x5.zz)
                  refine ⟨acc, hD5, ?_, Z5, acc ++ [v], done ++ [e], ⟨fun a o h => ?_, x25.zz, fun a o h => ?_, x25.st⟩, upd_same, zD5, (rs.mono l25).append (.cons rd5 .nil), by rw [List.length_append, List.length_singleton]; omega, ?_⟩
                  · rw [rs.length]
                    have : ds.length ≤ sizeLine := line_of hline
                    omega
                  · have ne : a ≠ Da := fun z => by subst z; rw [hD] at h; cases h
                    rw [upd_ne ne]; exact x25.hh _ _ h
                  · have ne : a ≠ Da := fun z => by subst z; rw [zD5] at h; cases h
                    rw [upd_ne ne]; exact x25.zh _ _ h
                  · rw [← hf, Option.map_map]
                    congr 1
                    funext l
                    simp
              · cases hf
            · rename_i hct
              refine ⟨H0, Z0, ρ1, Z2, _, hct, s3, fun b q Z3 H3 x3 => ?_, fun c es q => (nomatch q)⟩
              cases q
              have hD3 : H3 Da = some (.lst acc) := x3.hh _ _ hD2
              have zD3 : Z3 Da = none := by rw [x3.st Da (by rw [hD2]; simp)]; exact zD2
              exact iteF ⟨Z3, acc, done, x2'.trans x3, hD3, zD3, rs.mono (x2.zz.trans x3.zz), by omega, hf⟩
            · cases hf
        · have e : i = ds.length := by omega
          subst e
          rw [List.drop_length] at hf
          have he : done = es := by
            unfold lcD at hf
            simpa using hf
          subst he
          refine .inl ⟨it.2 _ Z' H' x'.zz x'.zh (Nat.le_refl _), ?_⟩
          exact p.ok _ rfl _ Z' H' (x1.trans x') ⟨Da, acc, rfl, x1.hh.free hD, hD', zD', rs⟩
      · cases e2
    · cases e2
section
variable {X : Cx} {T : Tab} {W : WX} {elt tg iter : Expr} {ifs : List Expr} {scope : Scope} {own : List (Str × Nat)} {pos spos py : Pos} {g : FIt} {gt : GT} {ct : FT} {f : FE} {tgr : TG}
theorem pd_lc (hc : X.calm = true) (hN : X.N.Nodup) (hi : PDI X T W tg iter g) (ok : BlkOk X.N X.env.scope scope own) (ht : TgD X.K T tgr gt (own.map (·.2)))
    (hg : ∀ (s : Shared) (H : Hp) (C : Addr) (cl : List (Str × Addr)) (fp : List Addr), PG (X.blk s H scope (compEnvC scope cl C X.env) fp) tg tgr)
    (hif : ∀ (s : Shared) (H : Hp) (C : Addr) (cl : List (Str × Addr)) (fp : List Addr), PDTs (X.blk s H scope (compEnvC scope cl C X.env) fp) T W0 ifs ct)
    (he : ∀ (s : Shared) (H : Hp) (C : Addr) (cl : List (Str × Addr)) (fp : List Addr), PD (X.blk s H scope (compEnvC scope cl C X.env) fp) T W0 elt f) (hs : ∀ x, foldedSetIterable iter X.env x = pure x := by intro _; rfl) :
    PD X T W (.ListComp elt [⟨tg, iter, ifs, 0⟩] scope pos) (eLc (own.map (·.2)) g gt ct f) :=
  PE.imp (pe_lc hc hN hi ok hg hif he hs) fun _ _ _ q => lc_of ht q
theorem pds_setLc {i : Nat} {y : Str} (hc : X.calm = true) (hN : X.N.Nodup) (hy : X.N[i]? = some y) (hyl : X.env.scope.names.lookup y = some .local)
    (hsw : swapsWith (.ListComp elt [⟨tg, iter, ifs, 0⟩] scope pos) (some (.Name y py)) spos.line X.env = pure true) (hi : PDI X T W tg iter g) (ok : BlkOk X.N X.env.scope scope own) (ht : TgD X.K T tgr gt (own.map (·.2)))
    (hg : ∀ (s : Shared) (H : Hp) (C : Addr) (cl : List (Str × Addr)) (fp : List Addr), PG (X.blk s H scope (compEnvC scope cl C X.env) fp) tg tgr)
    (hif : ∀ (s : Shared) (H : Hp) (C : Addr) (cl : List (Str × Addr)) (fp : List Addr), PDTs (X.blk s H scope (compEnvC scope cl C X.env) fp) T W0 ifs ct)
    (he : ∀ (s : Shared) (H : Hp) (C : Addr) (cl : List (Str × Addr)) (fp : List Addr), PD (X.blk s H scope (compEnvC scope cl C X.env) fp) T W0 elt f) (hs : ∀ x, foldedSetIterable iter X.env x = pure x := by intro _; rfl) :
    PDS X T W (.Assign [.Name y py] (.ListComp elt [⟨tg, iter, ifs, 0⟩] scope pos) spos) (sSet i (eLc (own.map (·.2)) g gt ct f)) := by
  refine PS.imp (ps_setLc (te := tD X.K T W0 f) (tt := tDT X.K T W0 ct) hc hN hy hyl hsw hi ok hg hif he hs) fun D σ H ⟨H0, Z0, env, Z, out, h, s, p⟩ => ?_
  refine lc_of ht (tD_bndS h s p fun r v Z1 H1 hk e1 rr s1 => ?_)
  cases r with
  | fro d => cases hk; exact p.nx _ rfl _ Z1 H1 (s1.setFro rr)
  | own ds =>
    cases hk
    obtain ⟨q, vs, rfl, b, hq, zq, rs⟩ := rr
    refine p.nx _ rfl _ Z1 H1 (s1.setOwn (ds := ds) ⟨q, vs, rfl, s.ext.hh.free b, hq, zq, rs⟩ fun j hj hσ => ?_)
    obtain ⟨q', o, e', h', _⟩ := s.ownAt hj hσ
    cases e'
    rw [h'] at b; cases b
  | bor ds => cases hk
end
end Pd

set_option maxHeartbeats 2000000
/-! PdG: how arguments lie, the law's end. -/
namespace Pd
open PySem PySem.Spec L2

section
variable {K : PySem.W.Frag} {T : Tab} {x qual : Str} {params : Arguments} {body : List Stmt} {scope : Scope} {dvs : List V} {kws : List (Str × V)} {f : Addr} {fd : FuncData} {ps : List Str} {n : Nat}
theorem kbn_pos (F : FunD K x qual params body scope [] kws f fd) (hn : ps.length = n)
    (h : ∀ (kV doc pm : Value) (an : Option Addr) (cdv ct : Value) (us : List Value), us.length = ps.length → bindArgs (PySem.W.fnOf x qual params body scope .none kV doc pm an cdv ct) ⟨us, []⟩ = pure (ps.zip us)) :
    KBn K fd ps n [] (fun us _ => us) (fun vs _ => vs) := by
  have B := FunD.bindsA F h
  refine ⟨fun s us ws _ l1 l2 => ?_, fun r _ => r⟩
  show BindsTo s fd ⟨us, []⟩ (ps.zip us)
  exact B s us (by rw [l1, hn])
theorem conv_pos (F : FunD K x qual params body scope [] kws f fd) (hn : ps.length = n)
    (h : ∀ (kV doc pm : Value) (an : Option Addr) (cdv ct : Value) (us : List Value), us.length = ps.length → bindArgs (PySem.W.fnOf x qual params body scope .none kV doc pm an cdv ct) ⟨us, []⟩ = pure (ps.zip us)) :
    Conv K T fd ps n [] (fun ds _ => ds) := ⟨_, _, kbn_pos F hn h, fun _ _ _ _ _ _ _ r _ => r⟩
theorem convI_pos (F : FunD K x qual params body scope [] kws f fd) (hn : ps.length = n + 1)
    (h : ∀ (kV doc pm : Value) (an : Option Addr) (cdv ct : Value) (us : List Value), us.length = ps.length → bindArgs (PySem.W.fnOf x qual params body scope .none kV doc pm an cdv ct) ⟨us, []⟩ = pure (ps.zip us)) :
    ConvI K T fd ps n [] (fun ds _ => ds) := ⟨_, _, kbn_pos F hn h, fun _ _ _ vs _ _ _ _ r _ => ⟨vs, rfl, r⟩⟩
/-- the law's promise from its plain function -/
theorem law_sp {fn : Fn} {H : Hp} {a : Addr} {ns : List Int} (hS : SqL K H a (ns.map V.int)) (h : fn [.lst (ns.map Dt.int)] = some (.ok (.fro (.bl true)))) : spD K T fn [.ref a] H (fun v _ => v = .bl true) (fun _ _ _ => False) := by
  refine ⟨H, [.lst (ns.map Dt.int)], _, Le.refl H, .cons ?_ .nil, h, fun r e v Z' H' _ rr => ?_, fun c es e => (nomatch e)⟩
  · simp only [Rep]
    exact ⟨a, _, rfl, hS, .ints⟩
  · cases e
    simpa only [RRep, Rep] using rr
end
/-- the law's walk, with the numbers' bits told -/
theorem walk_end {l : PySem.W.OpenLaw} {m k : Nat} {q : Program} {loose : List Str} {XP : (Str → Option Value) → Heap → Prop} {YP : World → Heap → Prop} {d : DefRec} {x : Str}
    (hm : l.most = some m) (hm2 : m ≤ sizeLine) (hdf : d.params.defaults = []) (hr : Room k callerA)
    (F : ∀ (w : World) (mg : Str → Option Value) (fa : Addr) (h : Heap), YP w h → h.Ns mainGlobals mg → mg d.name = some (.ref fa) →
      ∃ (K : PySem.W.Frag) (T : Tab) (fd : FuncData) (fn : Fn), K.In h ∧ (∀ (s : Shared) (u : Value), BindsTo s fd ⟨[u], []⟩ [(x, u)]) ∧
        (∀ (ns : List Int), ns.length ≤ m → (∀ z ∈ ns, Builtin.Int.intBits z ≤ 1048576) → fn [.lst (ns.map Dt.int)] = some (.ok (.fro (.bl true)))) ∧
        ∀ base : Heap, K.In base → base.Ns mainGlobals mg → FnOk l.prog w K mg base (L2.CX l.prog w) k fa fd [x] (spD K T fn)) :
    PySem.W.WalkO q loose XP YP l.row.toRowW d [] (fun f vs => PySem.call f vs) := by
  refine Att.attach_callB hm hdf fun w s₀ s₁ mg mb fa o pm cd doc a vs ns Gr Y ho hd hcd hmg hobj hints hlen hbits hg => ?_
  obtain ⟨K, T, fd, fn, KX, hb, hsp, hF⟩ := F w mg fa _ Y Gr.T.g hmg
  refine law_call KX Gr.T.g Gr.T.b Gr.T.builtins Gr.T.nolimit hg hobj hints (Nat.le_trans hlen hm2) hr hF hb (fun H hO hS => law_sp hS (hsp ns hlen hbits)) fun H e s' hx => ?_
  obtain ⟨_, _, _, _, _, _, _, _, _, _, _, _, z⟩ := hx
  exact z
end Pd

set_option maxHeartbeats 2000000
/-! PdH: rules as a printed walk takes them. -/
namespace Pd
open PySem PySem.Spec L2

/-- a def of the module, called by name with all its arguments -/
structure DefOk (P : Program) (w : World) (K : PySem.W.Frag) (mg : Str → Option Value) (base : Heap) (T : Tab) (k : Nat) (x : Str) (n : Nat) (fn : Fn) : Prop where
  ex : ∃ f fd ps, mg x = some (.ref f) ∧ PySem.W.keepIn K (.ref f) = true ∧ Conv K T fd ps n [] (fun ds _ => ds) ∧ FnOk P w K mg base (L2.CX P w) k f fd ps (spD K T fn)
/-- a class of the module, made by name -/
structure ClsOk (P : Program) (w : World) (K : PySem.W.Frag) (mg : Str → Option Value) (base : Heap) (T : Tab) (k : Nat) (x : Str) (c n : Nat) (fi : FI) : Prop where
  ex : ∃ f fd ps, mg x = some (.ref (T.ca c)) ∧ PySem.W.keepIn K (.ref (T.ca c)) = true ∧ Mk K (T.ca c) f ∧ ConvI K T fd ps n [] (fun ds _ => ds) ∧ FnOk P w K mg base (L2.CX P w) k f fd ps (spI K T c fi)
/-- a call: the arguments' data, then the plain function -/
def eCa (n : Nat) (fn : Fn) (fa : FA) : FE := eCall n 0 (fun ds _ => fn ds) fa aNil
section
variable {X : Cx} {T : Tab} {W : WX} {k n : Nat} {fn : Fn} {x : Str} {p pos : Pos} {e : Expr} {es : List Expr} {fa : FA}
theorem pd_callD (D : DefOk X.prog X.w X.K X.mg X.base T k x n fn) (hr : Room k X.A) (tk : Takes X W) (ha : PDA X T W (e :: es) fa) (hg : Gl X x := by rfl)
    (hdb : (x == ("__debug__" : Str)) = false := by decide) (he : starEach (e :: es) X.env = (false, eval e X.env) :: starEach es X.env := by rfl) (hpl : (backTo pos (starEach es X.env)).any (·.1) = false := by rfl) :
    PD X T W (.Call (.Name x p) (e :: es) [] pos) (eCa n fn fa) := by
  obtain ⟨f, fd, ps, hm, hk, hb, F⟩ := D.ex
  exact pd_callV (callV_fn F hr hb tk) hk hg hm ha hdb he hpl
theorem pd_callD0 (D : DefOk X.prog X.w X.K X.mg X.base T k x n fn) (hr : Room k X.A) (tk : Takes X W) (hg : Gl X x := by rfl) (hdb : (x == ("__debug__" : Str)) = false := by decide) :
    PD X T W (.Call (.Name x p) [] [] pos) (eCa n fn aNil) := by
  obtain ⟨f, fd, ps, hm, hk, hb, F⟩ := D.ex
  exact pd_callV0 (callV_fn F hr hb tk) hk hg hm hdb
theorem pd_callC {c : Nat} {fi : FI} (D : ClsOk X.prog X.w X.K X.mg X.base T k x c n fi) (hr : Room (k + 1) X.A) (tk : Takes X W) (ha : PDA X T W (e :: es) fa) (hg : Gl X x := by rfl)
    (hdb : (x == ("__debug__" : Str)) = false := by decide) (he : starEach (e :: es) X.env = (false, eval e X.env) :: starEach es X.env := by rfl) (hpl : (backTo pos (starEach es X.env)).any (·.1) = false := by rfl) :
    PD X T W (.Call (.Name x p) (e :: es) [] pos) (eCa n (mkD c fi) fa) := by
  obtain ⟨f, fd, ps, hm, hk, M, hb, F⟩ := D.ex
  exact pd_callV (callV_make M F hr hb tk) hk hg hm ha hdb he hpl
/-- isinstance(x, T) for a built-in T, asked of built-in kinds alone -/
theorem pd_isB (n : String) {q2 : Pos} {a : Expr} {fa : FE} (hm : X.mg "isinstance" = none) (hmn : X.mg (Str.ofString n) = none) (ha : PD X T W a fa) (hv : bootBuiltins (Str.ofString n) = some (.type n)) (hgn : Gl X (Str.ofString n)) (hnn : (Str.ofString n) ≠ "__name__" := by decide) (hd : ((Str.ofString n) == ("__debug__" : Str)) = false := by decide)
    (hg : Gl X "isinstance" := by rfl) (hs : starEach (a :: [.Name (Str.ofString n) q2]) X.env = (false, eval a X.env) :: starEach [.Name (Str.ofString n) q2] X.env := by rfl) (hs2 : starEach (.Name (Str.ofString n) q2 :: []) X.env = (false, eval (.Name (Str.ofString n) q2) X.env) :: starEach [] X.env := by rfl)
    (hpl : (backTo pos (starEach [.Name (Str.ofString n) q2] X.env)).any (·.1) = false := by rfl) : PD X T W (.Call (.Name "isinstance" p) [a, .Name (Str.ofString n) q2] [] pos) (e1 (gIsi (ansB n [])) fa) :=
  pd_isi (.ty n) (fun t r h => by
    cases t with
    | ty m => exact kit_ty h
    | own c => cases h) (fun c r h => by cases h) hm ha (pe_bltn hgn hmn hv rfl hnn hd) hg hs hs2 hpl
end
end Pd

set_option maxHeartbeats 2000000
/-! PdI: methods, properties, own operators. -/
namespace Pd
open PySem PySem.Spec L2

/-! ### defaults -/
section
variable {K : PySem.W.Frag} {T : Tab} {x qual : Str} {params : Arguments} {body : List Stmt} {scope : Scope} {dvs : List V} {kws : List (Str × V)} {f : Addr} {fd : FuncData} {ps : List Str}
theorem kbn_dfl (F : FunD K x qual params body scope dvs kws f fd) (n j : Nat) (hd : dvs ≠ []) (hn : n + (dvs.length - j) = ps.length)
    (h : ∀ (T : Addr) (kV doc pm : Value) (an : Option Addr) (cdv ct : Value) (us its : List Value), us.length = n → its.length = dvs.length →
      ∃ k, bindArgs (PySem.W.fnOf x qual params body scope (.ref T) kV doc pm an cdv ct) ⟨us, []⟩ = seqItems? (.ref T) >>= k ∧ k (some its.toArray) = pure (ps.zip (us ++ its.drop j))) :
    ∃ ds, KBn K fd ps n [] (fun us _ => us ++ ds) (fun vs _ => vs ++ dvs.drop j) := by
  obtain ⟨ds, hv, hb⟩ := FunD.binds1 F n j hd hn h
  refine ⟨ds, fun s us ws k l1 l2 => ?_, fun r _ => r.append hv⟩
  show BindsTo s fd ⟨us, []⟩ (ps.zip (us ++ ds))
  refine hb s us k ?_
  have := hv.length
  rw [List.length_drop] at this
  rw [List.length_append]
  omega
theorem conv_dfl (F : FunD K x qual params body scope dvs kws f fd) (n j : Nat) (des : List Dt) (hr : ∀ Z, Reps K T Z des (dvs.drop j)) (hd : dvs ≠ []) (hn : n + (dvs.length - j) = ps.length)
    (h : ∀ (T : Addr) (kV doc pm : Value) (an : Option Addr) (cdv ct : Value) (us its : List Value), us.length = n → its.length = dvs.length →
      ∃ k, bindArgs (PySem.W.fnOf x qual params body scope (.ref T) kV doc pm an cdv ct) ⟨us, []⟩ = seqItems? (.ref T) >>= k ∧ k (some its.toArray) = pure (ps.zip (us ++ its.drop j))) :
    Conv K T fd ps n [] (fun ds _ => ds ++ des) := by
  obtain ⟨ds, h⟩ := kbn_dfl F n j hd hn h
  exact ⟨_, _, h, fun Z _ _ _ _ _ _ r _ => r.append (hr Z)⟩
theorem convI_dfl (F : FunD K x qual params body scope dvs kws f fd) (n j : Nat) (des : List Dt) (hr : ∀ Z, Reps K T Z des (dvs.drop j)) (hd : dvs ≠ []) (hn : n + 1 + (dvs.length - j) = ps.length)
    (h : ∀ (T : Addr) (kV doc pm : Value) (an : Option Addr) (cdv ct : Value) (us its : List Value), us.length = n + 1 → its.length = dvs.length →
      ∃ k, bindArgs (PySem.W.fnOf x qual params body scope (.ref T) kV doc pm an cdv ct) ⟨us, []⟩ = seqItems? (.ref T) >>= k ∧ k (some its.toArray) = pure (ps.zip (us ++ its.drop j))) :
    ConvI K T fd ps n [] (fun ds _ => ds ++ des) := by
  obtain ⟨ds, h⟩ := kbn_dfl F (n + 1) j hd hn h
  exact ⟨_, _, h, fun Z _ _ vs _ _ _ _ r _ => ⟨vs ++ dvs.drop j, rfl, r.append (hr Z)⟩⟩
end
/-- a class of the module, made by name; gD: the arguments with the defaults -/
structure ClsG (P : Program) (w : World) (K : PySem.W.Frag) (mg : Str → Option Value) (base : Heap) (T : Tab) (k : Nat) (x : Str) (c n : Nat) (gD : List Dt → List Dt) (fi : FI) : Prop where
  ex : ∃ f fd ps, mg x = some (.ref (T.ca c)) ∧ PySem.W.keepIn K (.ref (T.ca c)) = true ∧ Mk K (T.ca c) f ∧ ConvI K T fd ps n [] (fun ds _ => gD ds) ∧ FnOk P w K mg base (L2.CX P w) k f fd ps (spI K T c fi)
structure DefG (P : Program) (w : World) (K : PySem.W.Frag) (mg : Str → Option Value) (base : Heap) (T : Tab) (k : Nat) (x : Str) (n : Nat) (gD : List Dt → List Dt) (fn : Fn) : Prop where
  ex : ∃ f fd ps, mg x = some (.ref f) ∧ PySem.W.keepIn K (.ref f) = true ∧ Conv K T fd ps n [] (fun ds _ => gD ds) ∧ FnOk P w K mg base (L2.CX P w) k f fd ps (spD K T fn)
/-- a method of a class of the table; n counts self -/
structure MethOk (P : Program) (w : World) (K : PySem.W.Frag) (mg : Str → Option Value) (base : Heap) (T : Tab) (k : Nat) (c : Nat) (m : Str) (n : Nat) (gD : List Dt → List Dt) (fn : Fn) : Prop where
  cls : ClsD K T c
  nofl : m ∉ T.fl c
  ex : ∃ f fd ps, Meth K (T.ca c) m f ∧ Conv K T fd ps n [] (fun ds _ => gD ds) ∧ FnOk P w K mg base (L2.CX P w) k f fd ps (spD K T fn)
section
variable {X : Cx} {T : Tab} {W : WX} {k n : Nat} {fn : Fn} {x : Str} {p pos : Pos} {e : Expr} {es : List Expr} {fa : FA}
theorem pd_callG {gD : List Dt → List Dt} (D : DefG X.prog X.w X.K X.mg X.base T k x n gD fn) (hr : Room k X.A) (tk : Takes X W) (ha : PDA X T W (e :: es) fa) (hg : Gl X x := by rfl)
    (hdb : (x == ("__debug__" : Str)) = false := by decide) (he : starEach (e :: es) X.env = (false, eval e X.env) :: starEach es X.env := by rfl) (hpl : (backTo pos (starEach es X.env)).any (·.1) = false := by rfl) :
    PD X T W (.Call (.Name x p) (e :: es) [] pos) (eCa n (fun ds => fn (gD ds)) fa) := by
  obtain ⟨f, fd, ps, hm, hk, hb, F⟩ := D.ex
  exact pd_callV (callV_fn F hr hb tk) hk hg hm ha hdb he hpl
theorem pd_callCG {c : Nat} {fi : FI} {gD : List Dt → List Dt} (D : ClsG X.prog X.w X.K X.mg X.base T k x c n gD fi) (hr : Room (k + 1) X.A) (tk : Takes X W) (ha : PDA X T W (e :: es) fa) (hg : Gl X x := by rfl)
    (hdb : (x == ("__debug__" : Str)) = false := by decide) (he : starEach (e :: es) X.env = (false, eval e X.env) :: starEach es X.env := by rfl) (hpl : (backTo pos (starEach es X.env)).any (·.1) = false := by rfl) :
    PD X T W (.Call (.Name x p) (e :: es) [] pos) (eCa n (fun ds => mkD c fi (gD ds)) fa) := by
  obtain ⟨f, fd, ps, hm, hk, M, hb, F⟩ := D.ex
  exact pd_callV (callV_make M F hr hb tk) hk hg hm ha hdb he hpl
end

/-! ### o.m(e, ..) -/
/-- the method that an object's class has -/
def pickM (ms : Nat → Option Fn) : Rs → Option (Nat × List Dt × Fn)
  | .fro (.ins c ds) => match ms c with
    | some fn => some (c, ds, fn)
    | none => none
  | _ => none
def eMe (ms : Nat → Option Fn) (fo : FE) (fa : FA) : FE := fun ρ => bnd (fo ρ) fun x => match pickM ms x with
  | some (c, ds, fn) => bnd (fa ρ) fun as => fn (.ins c ds :: as)
  | none => none
theorem pickM_inv {ms : Nat → Option Fn} {x : Rs} {c : Nat} {ds : List Dt} {fn : Fn} (h : pickM ms x = some (c, ds, fn)) : x = .fro (.ins c ds) ∧ ms c = some fn := by
  unfold pickM at h
  split at h
  · split at h
    · cases h; exact ⟨rfl, by assumption⟩
    · cases h
  · cases h
section
variable {X : Cx} {T : Tab} {W : WX} {k : Nat} {ms : Nat → Option Fn} {m : Str} {o e : Expr} {es : List Expr} {apos pos : Pos} {fo : FE} {fa : FA}
/-- what a method call asks of each class that may stand there -/
def MethsOk (X : Cx) (T : Tab) (k : Nat) (m : Str) (n : Nat) (ms : Nat → Option Fn) : Prop :=
  ∀ c fn, ms c = some fn → ∃ gD fn0, MethOk X.prog X.w X.K X.mg X.base T k c m n gD fn0 ∧ fn = fun ds => if ds.length = n then fn0 (gD ds) else none
theorem meth_run {n : Nat} (D : MethsOk X T k m n ms) (hr : Room k X.A) (tk : Takes X W) {pins : List (Addr × Obj)} {s : Shared} {σ : St} {H Z : Hp} {us : List Value} {vs : List V} {c : Nat} {ds as : List Dt} {a : Addr} {fn : Fn} {out : Ex Rs} {Q : VK} (I : Inv X pins σ H s) (zh : Le Z H)
    (rx : Rep X.K T Z (.ins c ds) (.ref a)) (ru : Vals vs us) (rs : Reps X.K T Z as vs) (hm : ms c = some fn) (hf : fn (.ins c ds :: as) = some out) (p : Post X.K T Z H σ W Q out) :
    ∃ f, Meth X.K (T.ca c) m f ∧ wpAny (model X.prog X.w) X.A (call (.ref f) (.ref a :: us)) (EP X pins σ Q) X.xe s := by
  obtain ⟨gD, fn0, M, rfl⟩ := D c fn hm
  obtain ⟨f, fd, ps, Mf, hb, F⟩ := M.ex
  refine ⟨f, Mf, ?_⟩
  have hl : (Dt.ins c ds :: as).length = n := by
    dsimp only at hf
    split at hf
    · assumption
    · cases hf
  dsimp only at hf
  rw [if_pos hl] at hf
  exact callV_fn F hr hb tk pins s σ H Z (.ref a :: us) [] (.ref a :: vs) [] (.ins c ds :: as) [] out Q I zh (.cons rfl ru) .nil (.cons rx rs) .nil hl rfl hf p
theorem ins_of {K : PySem.W.Frag} {Z : Hp} {c : Nat} {ds : List Dt} {v : V} (h : Rep K T Z (.ins c ds) v) : ∃ a dx vs, v = .ref a ∧ Z a = some (.ins (T.ca c) dx ((T.fl c).zip vs)) := by
  simp only [Rep] at h
  obtain ⟨a, dx, vs, rfl, h1, _⟩ := h
  exact ⟨a, dx, vs, rfl, h1⟩
theorem tDA_of {K : PySem.W.Frag} {H0 Z H : Hp} {Z0 : Hx} {env : PEnv} {σ : St} {Q : VK} {out : Ex Rs} {G : List V → Hp → Prop} {kk : List Dt → M Rs} (h : bnd (fa env) kk = some out) (s : SI K T H0 Z0 env σ Z H) (p : Post K T Z H σ W Q out)
    (go : ∀ ds vs Z1 H1, kk ds = some out → Ext4 Z H Z1 H1 → Reps K T Z1 ds vs → G vs H1) : tDA K T W fa σ H G := by
  rcases bnd_cases h with ⟨c, ds, e1, e2⟩ | ⟨ds, e1, e2⟩
  · exact ⟨H0, Z0, env, Z, _, e1, s, fun r q => (nomatch q), fun c' ds' q cls d Z' H' e x => by cases q; exact p.ex _ _ e2 cls d Z' H' e x⟩
  · exact ⟨H0, Z0, env, Z, _, e1, s, fun ds' q vs Z1 H1 x1 rs => by cases q; exact go ds vs Z1 H1 e2 x1 rs, fun c' ds' q => (nomatch q)⟩
theorem pd_meth {pl : Sem Bool} (D : MethsOk X T k m ((e :: es).length + 1) ms) (hr : Room k X.A) (tk : Takes X W) (ho : PD X T W o fo) (ha : PDA X T W (e :: es) fa)
    (hst : starEach (e :: es) X.env = (false, eval e X.env) :: starEach es X.env := by rfl) (hpl : (backTo pos (starEach es X.env)).any (·.1) = false := by rfl)
    (ht : eval (.Call (.Attribute o m apos) (e :: es) [] pos) X.env = (do
      let ov ← eval o X.env
      standAt apos.atName
      let (g, first) ← holding [ov] (getMethod ov m pl)
      callWith pos g first (backTo pos (starEach (e :: es) X.env)) (backToKw pos (keywordEach [] X.env))) := by rfl) :
    PD X T W (.Call (.Attribute o m apos) (e :: es) [] pos) (eMe ms fo fa) := by
  refine ⟨fun pins s σ H Q I h => ?_⟩
  obtain ⟨H0, Z0, env, Z, out, h, s0, po⟩ := h
  refine PySem.W.methodCall_KW (pl := pl) (thn (ho.run pins s σ H (fun v H1 => ∃ c ds fn a Z1, Ext4 Z H Z1 H1 ∧ v = .ref a ∧ Rep X.K T Z1 (.ins c ds) (.ref a) ∧ bnd (fa env) (fun as => fn (.ins c ds :: as)) = some out ∧ ms c = some fn) I
    (tD_bnd h s0 po fun r v Z1 H1 hk x1 rr s1 p1 => ?_)) fun u s1 ⟨v, H1, I1, rv, c, ds, fn, a, Z1, x1, ev, rx, hk, hfn⟩ => ?_) ht
  · split at hk
    · rename_i c ds fn hp
      obtain ⟨rfl, hm⟩ := pickM_inv hp
      obtain ⟨a, dx, vs, rfl, _⟩ := ins_of (T := T) rr
      exact ⟨c, ds, fn, a, Z1, x1, rfl, rr, hk, hm⟩
    · cases hk
  · subst ev
    obtain rfl : u = Value.ref a := rv
    obtain ⟨gD, fn0, M, _⟩ := D c fn hfn
    obtain ⟨a', dx, vs, e, hz⟩ := ins_of (T := T) rx
    cases e
    obtain ⟨f, fd, ps, Mf, hb, F⟩ := M.ex
    refine getmeth_ok I1 (x1.zh _ _ hz) M.cls.cls Mf (lookup_no M.nofl) ?_
    refine PySem.W.callWith_K (first := [.ref a]) (h₀ := X.base) I1.ok.mod.kin Mf.kp (thn (ha.run pos pins s1 σ H1 (fun vs2 H2 => ∀ (s2 : Shared) (us : List Value), Inv X pins σ H2 s2 → Vals vs2 us → wpAny (model X.prog X.w) X.A (call (.ref f) (.ref a :: us)) (EP X pins σ Q) X.xe s2) I1 (tDA_of hk (s0.step x1) (po.step x1) fun as vs' Z2 H2 hk2 x2 rs => ?_)) fun us s2 ⟨vs2, H2, I2, r2, q2⟩ => ⟨I2.kIn, q2 s2 us I2 r2⟩) hst hpl
    intro s2 us I2 r2
    obtain ⟨f', Mf', go⟩ := meth_run D hr tk I2 x2.zh (rx.mono x2.zz) r2 rs hfn hk2 (po.step (x1.trans x2))
    have : f' = f := by
      have e1 := Mf.at_
      rw [Mf'.at_] at e1
      cases e1
      rfl
    subst this
    exact go
theorem pd_meth0 {pl : Sem Bool} (D : MethsOk X T k m 1 ms) (hr : Room k X.A) (tk : Takes X W) (ho : PD X T W o fo)
    (ht : eval (.Call (.Attribute o m apos) [] [] pos) X.env = (do
      let ov ← eval o X.env
      standAt apos.atName
      let (g, first) ← holding [ov] (getMethod ov m pl)
      callWith pos g first (backTo pos (starEach [] X.env)) (backToKw pos (keywordEach [] X.env))) := by rfl) :
    PD X T W (.Call (.Attribute o m apos) [] [] pos) (eMe ms fo aNil) := by
  refine ⟨fun pins s σ H Q I h => ?_⟩
  obtain ⟨H0, Z0, env, Z, out, h, s0, po⟩ := h
  refine PySem.W.methodCall_KW (pl := pl) (thn (ho.run pins s σ H (fun v H1 => ∃ c ds fn a Z1, Ext4 Z H Z1 H1 ∧ v = .ref a ∧ Rep X.K T Z1 (.ins c ds) (.ref a) ∧ fn [.ins c ds] = some out ∧ ms c = some fn) I
    (tD_bnd h s0 po fun r v Z1 H1 hk x1 rr s1 p1 => ?_)) fun u s1 ⟨v, H1, I1, rv, c, ds, fn, a, Z1, x1, ev, rx, hk, hfn⟩ => ?_) ht
  · split at hk
    · rename_i c ds fn hp
      obtain ⟨rfl, hm⟩ := pickM_inv hp
      obtain ⟨a, dx, vs, rfl, _⟩ := ins_of (T := T) rr
      exact ⟨c, ds, fn, a, Z1, x1, rfl, rr, hk, hm⟩
    · cases hk
  · subst ev
    obtain rfl : u = Value.ref a := rv
    obtain ⟨gD, fn0, M, _⟩ := D c fn hfn
    obtain ⟨a', dx, vs, e, hz⟩ := ins_of (T := T) rx
    cases e
    obtain ⟨f, Mf, go⟩ := meth_run D hr tk I1 x1.zh rx .nil .nil hfn hk (po.step x1)
    refine getmeth_ok I1 (x1.zh _ _ hz) M.cls.cls Mf (lookup_no M.nofl) ?_
    exact PySem.W.callWith_K0 (first := [.ref a]) I1.kIn Mf.kp go
end
end Pd

set_option maxHeartbeats 2000000
/-! PdJ: attributes, own operators. -/
namespace Pd
open PySem PySem.Spec L2

/-! ### o.f: a field or a property -/
def okR : M Rs → M Rs
  | some (.ok r) => some (.ok r)
  | _ => none
def gAtt (m : Nat → Option Nat) (pr : Nat → Option Fn) : G1 := fun r => match r with
  | .fro (.ins c ds) => match m c with
    | some j => match ds[j]? with
      | some d => some (.ok (.fro d))
      | none => none
    | none => match pr c with
      | some fn => okR (fn [.ins c ds])
      | none => none
  | _ => none
theorem okR_inv {m : M Rs} {out : Ex Rs} (h : okR m = some out) : ∃ r, m = some (.ok r) ∧ out = .ok r := by
  unfold okR at h
  split at h
  · cases h; exact ⟨_, rfl, rfl⟩
  · cases h
/-- a property of a class of the table -/
structure PropOk (P : Program) (w : World) (K : PySem.W.Frag) (mg : Str → Option Value) (base : Heap) (T : Tab) (k : Nat) (c : Nat) (f : Str) (fn : Fn) : Prop where
  cls : ClsD K T c
  ex : ∃ p g fd ps, PropOf K (T.ca c) f p g ∧ Binds K fd ps [] ∧ FnOk P w K mg base (L2.CX P w) k g fd ps (spD K T fn)
section
variable {X : Cx} {T : Tab} {W : WX} {k : Nat} {e : Expr} {fa : FE} {f : Str} {pos : Pos}
theorem pd_att (m : Nat → Option Nat) (pr : Nat → Option Fn) (hm : ∀ c j, m c = some j → ClsD X.K T c ∧ (T.fl c)[j]? = some f) (hp : ∀ c fn, pr c = some fn → PropOk X.prog X.w X.K X.mg X.base T k c f fn) (hr : Room (k + 1) X.A) (he : PD X T W e fa)
    (hb : attributeBase e f X.env (eval e X.env) = eval e X.env := by rfl) : PD X T W (.Attribute e f pos) (e1 (gAtt m pr) fa) := by
  refine ⟨fun pins s σ H Q I h => ?_⟩
  obtain ⟨H0, Z0, env, Z, out, h, s0, po⟩ := h
  refine attr_of hb (thn (he.run pins s σ H (fun v H1 => ∃ r Z1, gAtt m pr r = some out ∧ Ext4 Z H Z1 H1 ∧ RRep X.K T H Z1 H1 v r) I (tD_bnd h s0 po fun r v Z1 H1 hk x1 rr s1 p1 => ⟨r, Z1, hk, x1, rr⟩)) fun u s1 ⟨v, H1, I1, rv, r, Z1, hk, x1, rr⟩ => ?_)
  have p1 := po.step x1
  unfold gAtt at hk
  split at hk
  · rename_i c ds
    simp only [RRep, Rep] at rr
    obtain ⟨a, dx, vs, rfl, h1, h2, h3⟩ := rr
    obtain rfl : u = Value.ref a := rv
    split at hk
    · rename_i j hj
      split at hk
      · rename_i d hd
        cases hk
        obtain ⟨C, hf⟩ := hm _ _ hj
        obtain ⟨w, h4, h5⟩ := h3.get hd
        exact getattr_ok I1 (x1.zh _ _ h1) C.cls (C.no _ (List.mem_of_getElem? hf)) (lookup_zip C.nd hf h4) fun u' s2 I2 ru => ⟨w, H1, I2, ru, p1.fro x1.zh h5⟩
      · cases hk
    · split at hk
      · rename_i fn hfn
        obtain ⟨r, e1, rfl⟩ := okR_inv hk
        have Pk := hp _ _ hfn
        obtain ⟨p, g, fd, ps, hpo, hb', F⟩ := Pk.ex
        have hsp : spD X.K T fn [.ref a] H1 Q (fun _ _ _ => False) := ⟨Z1, [.ins c ds], _, x1.zh, .cons (by simp only [Rep]; exact ⟨a, dx, vs, rfl, h1, h2, h3⟩) .nil, e1, fun r e => by cases e; exact p1.ok _ rfl, fun c es e => (nomatch e)⟩
        exact getprop_ok (dvs := []) (ds := []) I1 (x1.zh _ _ h1) Pk.cls.cls hpo F hr hb' .nil (fun _ _ _ _ _ _ _ hx => by
          obtain ⟨_, _, _, _, _, _, _, _, _, _, _, _, z⟩ := hx
          exact z) hsp
      · cases hk
  · cases hk
end
/-! ### own operators -/
/-- x op y, x an instance: its class's plain function, if ok -/
def gOwn (g : G2) (okD : Nat → Dt → Bool) (ops : Nat → Option Fn) : G2 := fun x y => match x with
  | .fro (.ins c ds) => match ops c with
    | some fn => match y with
      | .fro d => if okD c d then okR (fn [.ins c ds, d]) else none
      | _ => none
    | none => none
  | x => g x y
def rOwnD (K : PySem.W.Frag) (T : Tab) (okD : Nat → Dt → Bool) (ops : Nat → Option Fn) : R2 := fun x y H Q => ∃ Z c ds d fn r, Le Z H ∧ Rep K T Z (.ins c ds) x ∧ Rep K T Z d y ∧ okD c d = true ∧ ops c = some fn ∧ fn [.ins c ds, d] = some (.ok r) ∧
  ∀ v Z' H', Ext4 Z H Z' H' → RRep K T H Z' H' v r → Q v H'
theorem o2_own {K : PySem.W.Frag} {T : Tab} {W : WX} {r : R2} {g : G2} {okD : Nat → Dt → Bool} {ops : Nat → Option Fn} (h : Op2 K T W r g) : Op2 K T W (fun x y H Q => r x y H Q ∨ rOwnD K T okD ops x y H Q) (gOwn g okD ops) := fun σ B Z H x y v w out Q zh r1 r2 hg p => by
  unfold gOwn at hg
  split at hg
  · rename_i c ds
    split at hg
    · rename_i fn hfn
      split at hg
      · rename_i d
        split at hg
        · rename_i ho
          obtain ⟨r, e1, rfl⟩ := okR_inv hg
          exact .inr ⟨Z, c, ds, d, fn, r, zh, by simpa only [RRep] using r1, by simpa only [RRep] using r2, ho, hfn, e1, p.ok _ rfl⟩
        · cases hg
      · cases hg
    · cases hg
  · exact .inl (h σ B Z H x y v w out Q zh r1 r2 hg p)
section
variable {X : Cx} {T : Tab} {k : Nat} {okD : Nat → Dt → Bool} {ops : Nat → Option Fn} {m : Str}
theorem opr_or {f : Value → Value → Sem Value} {r r' : R2} (h : OpR X f r) (h' : OpR X f r') : OpR X f (fun x y H Q => r x y H Q ∨ r' x y H Q) := fun pins s σ H x y v u Q I rx ry q => q.elim (h pins s σ H x y v u Q I rx ry) (h' pins s σ H x y v u Q I rx ry)
/-- the machine's call of the operator's def -/
theorem own_call (D : MethsOk X T k m 2 ops) (hr : Room k X.A) {pins : List (Addr × Obj)} {s : Shared} {σ : St} {H Z : Hp} {a : Addr} {c : Nat} {ds : List Dt} {d : Dt} {y : V} {u : Value} {fn : Fn} {r : Rs} {Q : VK} (I : Inv X pins σ H s) (zh : Le Z H) (rx : Rep X.K T Z (.ins c ds) (.ref a)) (rd : Rep X.K T Z d y) (ry : RelV y u)
    (hm : ops c = some fn) (hf : fn [.ins c ds, d] = some (.ok r)) (q : ∀ v Z' H', Ext4 Z H Z' H' → RRep X.K T H Z' H' v r → Q v H') :
    ∃ f, Meth X.K (T.ca c) m f ∧ wpAny (model X.prog X.w) X.A (call (.ref f) [.ref a, u]) (PySem.W.CmpBack (EP X pins σ Q)) X.xe s := by
  obtain ⟨f, Mf, go⟩ := meth_run (W := W0) D hr takes_W0 I zh rx (.cons ry .nil) (.cons rd .nil) hm hf ⟨fun r' e => by cases e; exact q, fun c es e => (nomatch e)⟩
  refine ⟨f, Mf, wpAny_mono go (fun w s' z => ?_) fun _ _ x => x⟩
  obtain ⟨v, H', I', rv, qv⟩ := z
  exact SlX.cmpback rv ⟨v, H', I', rv, qv⟩
def sameC (c : Nat) : Dt → Bool
  | .ins c' _ => decide (c' = c)
  | _ => false
theorem inst_of {pins : List (Addr × Obj)} {s : Shared} {σ : St} {H : Hp} {a dx C : Addr} {fs : List (Str × V)} (I : Inv X pins σ H s) (h : H a = some (.ins C dx fs)) : ∃ ox od, PySem.W.InstAt s.heap a ox C (some od) := by
  obtain ⟨mA, J, _⟩ := ins_get I.hok h
  obtain ⟨od, J, _⟩ := J.look
  exact ⟨_, od, J⟩
theorem op_own2 {op : Operator} (hm : PySem.dunder op.info.2 = m) (D : MethsOk X T k m 2 ops) (hr : Room k X.A) (sf : ∀ c fn, ops c = some fn → PySem.W.selfFirst X.K (T.ca c) = true) : OpR X (binaryOp op) (rOwnD X.K T sameC ops) := by
  intro pins s σ H x y v u Q I rx ry ⟨Z, c, ds, d, fn, r, zh, dx, dy, ho, hfn, hf, q⟩
  obtain ⟨a, dx', vs, rfl, hz⟩ := ins_of (T := T) dx
  obtain rfl : v = Value.ref a := rx
  obtain ⟨f, Mf, go⟩ := own_call D hr I zh dx dy ry hfn hf q
  obtain ⟨mm, hF⟩ := I.fr
  obtain ⟨ox, od, J⟩ := inst_of I (zh _ _ hz)
  cases d with
  | ins c' es =>
    obtain rfl : c' = c := by simpa [sameC] using ho
    obtain ⟨b, dy', ws, rfl, hzb⟩ := ins_of (T := T) dy
    obtain rfl : u = Value.ref b := ry
    obtain ⟨ox2, od2, J2⟩ := inst_of I (zh _ _ hzb)
    exact PySem.W.binop_K hF I.ok.mod.kin J J2.type (sf _ _ hfn) (by rw [hm]; exact Mf.at_) Mf.fn go
  | _ => cases ho
/-- what an own == may be asked of: the same class, built-in kinds -/
def eqKind (ns : List String) (c : Nat) (d : Dt) : Bool := match typD d with
  | some (.ty n) => ns.contains n
  | some (.own c') => decide (c' = c)
  | none => false
theorem op_ownEq {op : CmpOp} {ns : List String} (hop : ∀ a b, compareOp op a b = richCompare op a b) (hm : (cmpInfo op).2.1 = m) (D : MethsOk X T k m 2 ops) (hr : Room k X.A) (nf : ∀ c fn, ops c = some fn → (∀ n ∈ ns, PySem.W.notFirst X.K (T.ca c) (.type n) = true) ∧ IsiC X.K T c) :
    OpR X (compareOp op) (rOwnD X.K T (eqKind ns) ops) := by
  intro pins s σ H x y v u Q I rx ry ⟨Z, c, ds, d, fn, r, zh, dx, dy, ho, hfn, hf, q⟩
  obtain ⟨a, dx', vs, rfl, hz⟩ := ins_of (T := T) dx
  obtain rfl : v = Value.ref a := rx
  obtain ⟨f, Mf, go⟩ := own_call D hr I zh dx dy ry hfn hf q
  obtain ⟨mm, hF⟩ := I.fr
  obtain ⟨ox, od, J⟩ := inst_of I (zh _ _ hz)
  obtain ⟨n1, n2⟩ := nf _ _ hfn
  obtain ⟨t, ht, hty, hnt⟩ : ∃ t, typD d = some t ∧ (∀ c', t = .own c' → c' = c) ∧ PySem.W.notFirst X.K (T.ca c) (t.val T) = true := by
    unfold eqKind at ho
    split at ho
    · rename_i n e
      exact ⟨_, e, fun c' z => (nomatch z), n1 _ (by simpa using ho)⟩
    · rename_i c' e
      have : c' = c := by simpa using ho
      subst this
      exact ⟨_, e, fun c2 z => by cases z; rfl, by simp [CR.val, PySem.W.notFirst]⟩
    · cases ho
  have ty := typR_ok (B := H) (r := .fro d) (t := t) (fun c' e => by rw [hty c' e]; exact n2) zh (by simpa only [RRep] using dy) ht
  obtain ⟨PP, kx, kp, _⟩ := kit_of I ry ty
  rw [hop]
  refine PySem.W.cmp_K (op := op) hr.units0 hF I.ok.mod.kin J (kx.ty _ _ I.kIn kp) hnt (by rw [hm]; exact Mf.at_) Mf.fn go
/-- -x, x an instance -/
def gOwn1 (g : G1) (ops : Nat → Option Fn) : G1 := fun x => match x with
  | .fro (.ins c ds) => match ops c with
    | some fn => okR (fn [.ins c ds])
    | none => none
  | x => g x
theorem pd_negO {W : WX} {e : Expr} {fa : FE} {pos : Pos} (D : MethsOk X T k "__neg__" 1 ops) (hr : Room k X.A) (ha : PD X T W e fa) : PD X T W (.UnaryOp .USub e pos) (e1 (gOwn1 gNeg ops) fa) := by
  have hu : UnR X (unaryOp .USub) (fun x H Q => (∃ i, x = .int i ∧ Q (.int (-i)) H) ∨ ∃ Z c ds fn r, Le Z H ∧ Rep X.K T Z (.ins c ds) x ∧ ops c = some fn ∧ fn [.ins c ds] = some (.ok r) ∧ ∀ v Z' H', Ext4 Z H Z' H' → RRep X.K T H Z' H' v r → Q v H') := by
    intro pins s σ H x v Q I rx q
    rcases q with ⟨i, rfl, q⟩ | ⟨Z, c, ds, fn, r, zh, dx, hfn, hf, q⟩
    · exact un_neg pins s σ H (.int i) v Q I rx ⟨i, rfl, q⟩
    · obtain ⟨a, dx', vs, rfl, hz⟩ := ins_of (T := T) dx
      obtain rfl : v = Value.ref a := rx
      obtain ⟨f, Mf, go⟩ := meth_run (W := W0) D hr takes_W0 I zh dx .nil .nil hfn hf ⟨fun r' e => by cases e; exact q, fun c es e => (nomatch e)⟩
      obtain ⟨mm, hF⟩ := I.fr
      obtain ⟨ox, od, J⟩ := inst_of I (zh _ _ hz)
      exact PySem.W.ksp_neg hF I.ok.mod.kin J Mf.at_ Mf.fn go
  refine pd_un hu (fun σ B Z H x v out Q zh r1 hg p => ?_) ha
  unfold gOwn1 at hg
  split at hg
  · rename_i c ds
    split at hg
    · rename_i fn hfn
      obtain ⟨r, e1, rfl⟩ := okR_inv hg
      exact .inr ⟨Z, c, ds, fn, r, zh, by simpa only [RRep] using r1, hfn, e1, p.ok _ rfl⟩
    · cases hg
  · rename_i hx
    unfold gNeg at hg
    split at hg
    · cases hg
      simp only [RRep, Rep] at r1
      subst r1
      exact .inl ⟨_, rfl, p.fro zh (by simp only [Rep])⟩
    · cases hg
end
end Pd

set_option maxHeartbeats 2000000
/-! PdK: what the head tells: the functions by paths of their own, facts of classes. -/
namespace Pd
open PySem PySem.Spec L2
/-- the function behind a property, a static method -/
def behind (w : String) (C m : Str) (K : PySem.W.Frag) : Addr := match PySem.W.recIn K (He.ma K (He.ga K C) m) w with
  | some (.ref g :: _) => g
  | _ => 0
def atG (x : Str) (K : PySem.W.Frag) : Addr := He.ga K x
def atM (C m : Str) (K : PySem.W.Frag) : Addr := He.ma K (He.ga K C) m
structure DefP where
  loc : PySem.W.Frag → Addr
  nm : Str
  qn : Str
  par : Arguments
  bod : List Stmt
  sco : Scope
  df : List He.Dv := []
abbrev Told : Type := Option (Str × Str × Arguments × FuncBody × Scope × Addr × List (Str × Addr) × Addr)
def seenAt (K : PySem.W.Frag) (a : Addr) : Told := match K.lookup a with
  | some o => (match o.data with
    | .func fd => some (fd.name, fd.qualname, fd.params, fd.body, fd.scope, fd.globals, fd.closure, fd.builtins)
    | _ => none)
  | none => none
def DefP.want (d : DefP) : Told := some (d.nm, d.qn, d.par, .stmts d.bod, d.sco, mainGlobals, [], builtinsNs)
def DefP.dv (d : DefP) (K : PySem.W.Frag) : List V := d.df.map fun q => q.v K
def DefP.good (d : DefP) (K : PySem.W.Frag) : Bool := PySem.W.keepIn K (.ref (d.loc K)) && match K.lookup (d.loc K) with
  | some o => (match o.data with
    | .func fd => PySem.W.codeIn K fd.code d.qn && He.dflB K fd.defaults (d.dv K)
    | _ => false)
  | none => false
theorem DefP.fund {d : DefP} {K : PySem.W.Frag} (e : seenAt K (d.loc K) = d.want) (g : d.good K = true) : ∃ fd, FunD K d.nm d.qn d.par d.bod d.sco (d.dv K) [] (d.loc K) fd := by
  unfold DefP.good at g
  obtain ⟨kp, g2⟩ := Bool.and_eq_true_iff.mp g
  unfold seenAt at e
  generalize hl : K.lookup (d.loc K) = o at e g2
  match o, e, g2 with
  | some ⟨oc, od, .func ⟨n1, n2, n3, n4, n5, n6, n7, n8, n9, n10, n11, n12, n13, n14, n15⟩, osl⟩, e, g2 =>
    have e2 : (some (n1, n2, n3, n4, n5, n6, n7, n15) : Told) = some (d.nm, d.qn, d.par, .stmts d.bod, d.sco, mainGlobals, [], builtinsNs) := e
    simp only [Option.some.injEq, Prod.mk.injEq] at e2
    obtain ⟨h1, h2, h3, h4, h5, h6, h7, h8⟩ := e2
    subst h1 h2 h3 h4 h5 h6 h7 h8
    have g3 : (PySem.W.codeIn K n13 d.qn && He.dflB K n8 (d.dv K)) = true := g2
    obtain ⟨k1, k2⟩ := Bool.and_eq_true_iff.mp g3
    exact ⟨_, ⟨oc, od, n8, n9, n10, n11, n12, n13, n14, osl, rfl, hl, k1, He.dflB_ok k2, .inl rfl⟩, kp⟩
/-- all that is told of K -/
abbrev AlP : Type := Bool × List Told
def lookP (fa : List He.Fa) (fn : List DefP) (ex : PySem.W.Frag → Bool) (K : PySem.W.Frag) : AlP := ((fa.all fun q => q.ok K) && ((fn.all fun d => d.good K) && ex K), fn.map fun d => seenAt K (d.loc K))
def askP (fn : List DefP) : AlP := (true, fn.map DefP.want)
def TellsP (fa : List He.Fa) (fn : List DefP) (ex : PySem.W.Frag → Bool) (K : PySem.W.Frag) : Prop := lookP fa fn ex K = askP fn
def seeP (n : Nat) (fa : List He.Fa) (fn : List DefP) (ex : PySem.W.Frag → Bool) (g : Addr → Option Obj) : AlP := lookP fa fn ex (He.frG g (cStatics :: sysModules :: He.asD g n))
def hookP (n : Nat) (fa : List He.Fa) (fn : List DefP) (ex : PySem.W.Frag → Bool) : PySem.W.Hook where
  α := AlP
  obs s := seeP n fa fn ex s.heap.get?
  val _ := askP fn
  says _ h := ∃ K : PySem.W.Frag, K.In h ∧ TellsP fa fn ex K
  of _ _ e := ⟨_, He.frG_in, e⟩
  keeps _ _ _ q k := let ⟨K, h1, h2⟩ := q; ⟨K, h1.keeps k, h2⟩
theorem seeP_eq {n : Nat} {fa : List He.Fa} {fn : List DefP} {ex : PySem.W.Frag → Bool} {g : Addr → Option Obj} {s : Shared} (h : ∀ a, g a = s.heap.get? a) : seeP n fa fn ex g = (hookP n fa fn ex).obs s := by
  rw [funext h]
  rfl
section
variable {fa : List He.Fa} {fn : List DefP} {ex : PySem.W.Frag → Bool} {K : PySem.W.Frag}
theorem TellsP.fact (c : TellsP fa fn ex K) (i : Nat) {q : He.Fa} (h : fa[i]? = some q := by rfl) : q.ok K = true := by
  have h1 := Bool.and_eq_true_iff.mp (congrArg (fun z : AlP => z.1) c : _ = true)
  exact List.all_eq_true.mp h1.1 q (List.mem_of_getElem? h)
theorem TellsP.more (c : TellsP fa fn ex K) : ex K = true := by
  have h1 := Bool.and_eq_true_iff.mp (congrArg (fun z : AlP => z.1) c : _ = true)
  exact (Bool.and_eq_true_iff.mp h1.2).2
theorem TellsP.fun_ (c : TellsP fa fn ex K) (i : Nat) {d : DefP} (h : fn[i]? = some d := by rfl) : ∃ fd, FunD K d.nm d.qn d.par d.bod d.sco (d.dv K) [] (d.loc K) fd := by
  have h1 := Bool.and_eq_true_iff.mp (congrArg (fun z : AlP => z.1) c : _ = true)
  have g := List.all_eq_true.mp (Bool.and_eq_true_iff.mp h1.2).1 d (List.mem_of_getElem? h)
  have e : fn.map (fun d => seenAt K (d.loc K)) = fn.map DefP.want := congrArg (fun z : AlP => z.2) c
  have e2 := congrArg (fun l => l[i]?) e
  simp only [List.getElem?_map, h, Option.map_some, Option.some.injEq] at e2
  exact DefP.fund e2 g
end
/-! ### Booleans of K -/
def bltB (x : Str) (id : String) (K : PySem.W.Frag) : Bool := He.eqO (PySem.W.nsIn K mainGlobals x) (some (some (.builtin id)))
theorem bltB_ok {x : Str} {id : String} {K : PySem.W.Frag} {h : Heap} {mg : Str → Option Value} (X : K.In h) (G : h.Ns mainGlobals mg) (c : bltB x id K = true) : mg x = some (.builtin id) := PySem.W.mg_of X G (He.eqO_ok c)
def propB (C f : Str) (K : PySem.W.Frag) : Bool := He.eqO (PySem.W.findIn K (.ref (He.ga K C)) f) (some (some (.ref (atM C f K)))) && (He.eqO (PySem.W.specialIn K (.ref (atM C f K)) "__get__") (some (some (.builtin "property.__get__"))) &&
  (decide (PySem.W.takesIn K (.ref (atM C f K)) = some true) && match PySem.W.recIn K (atM C f K) "property" with
    | some (.ref g :: _) => decide (g = behind "property" C f K)
    | _ => false))
theorem propB_ok {C f : Str} {K : PySem.W.Frag} (c : propB C f K = true) : PropOf K (He.ga K C) f (atM C f K) (behind "property" C f K) := by
  unfold propB at c
  simp only [Bool.and_eq_true] at c
  obtain ⟨c1, c2, c3, c4⟩ := c
  refine ⟨He.eqO_ok c1, He.eqO_ok c2, of_decide_eq_true c3, ?_⟩
  split at c4
  · rename_i g rest e
    rw [of_decide_eq_true c4] at e
    exact ⟨rest, e⟩
  · cases c4
def isiB (C : Str) (K : PySem.W.Frag) : Bool := He.eqO (PySem.W.findIn K (.ref (He.ga K C)) "__class__") (some (some (.builtin "object.__class__"))) && decide (PySem.W.mroIn K (He.ga K C) (.type "object") = some true)
def isi0 (K : PySem.W.Frag) : Bool := He.eqO (PySem.W.specialIn K (.builtin "object.__class__") "__get__") (some (some (.builtin "getset_descriptor.__get__"))) && decide (PySem.W.takesIn K (.builtin "object.__class__") = some true)
theorem isiB_ok {T : Tab} {c : Nat} {C : Str} {K : PySem.W.Frag} (hc : Cls K (T.ca c)) (hT : T.ca c = He.ga K C) (c0 : isi0 K = true) (cc : isiB C K = true) : IsiC K T c := by
  obtain ⟨a1, a2⟩ := Bool.and_eq_true_iff.mp c0
  obtain ⟨b1, b2⟩ := Bool.and_eq_true_iff.mp cc
  exact ⟨hc, by rw [hT]; exact He.eqO_ok b1, He.eqO_ok a1, of_decide_eq_true a2, by rw [hT]; exact of_decide_eq_true b2⟩
/-- kitOne's answers: own class against own class, built-in kinds against own, own against built-in kinds -/
def kitCC (C D : Str) (b : Bool) (K : PySem.W.Frag) : Bool := decide (PySem.W.kitOne K (.ref (He.ga K C)) (.ref (He.ga K D)) = some b)
def kitTC (n : String) (D : Str) (K : PySem.W.Frag) : Bool := decide (PySem.W.kitOne K (.type n) (.ref (He.ga K D)) = some false)
def kitCT (C : Str) (n : String) (K : PySem.W.Frag) : Bool := decide (PySem.W.kitOne K (.ref (He.ga K C)) (.type n) = some false)
def nfB (C : Str) (n : String) (K : PySem.W.Frag) : Bool := PySem.W.notFirst K (He.ga K C) (.type n)
def sfB (C : Str) (K : PySem.W.Frag) : Bool := PySem.W.selfFirst K (He.ga K C)
theorem look_mem {c : Nat} {r : Bool} : ∀ {cs : List (Nat × Bool)}, cs.lookup c = some r → (c, r) ∈ cs
  | [], h => by cases h
  | (d, b) :: cs, h => by
    by_cases e : c = d
    · subst e
      simp [List.lookup] at h
      subst h
      exact List.mem_cons_self
    · have eb : (c == d) = false := beq_eq_false_iff_ne.mpr e
      simp only [List.lookup, eb] at h
      exact List.mem_cons_of_mem _ (look_mem h)
/-- isinstance against an own class: the answer by the kind -/
def ansC (ns : List String) (cs : List (Nat × Bool)) : CR → Option Bool
  | .ty m => if ns.contains m then some false else none
  | .own c => cs.lookup c
/-- isinstance against a built-in kind, own classes of cs among the asked -/
theorem ansB_ok {K : PySem.W.Frag} {T : Tab} {n : String} {cs : List Nat} (h : ∀ c ∈ cs, PySem.W.kitOne K (.ref (T.ca c)) (.type n) = some false) : ∀ t r, ansB n cs t = some r → PySem.W.kitOne K (t.val T) ((CR.ty n).val T) = some r := by
  intro t r e
  cases t with
  | ty m => exact kit_ty e
  | own c =>
    have e2 : (if cs.contains c then some false else none) = some r := e
    split at e2
    · rename_i hc
      cases e2
      exact h c (by simpa using hc)
    · cases e2
theorem ansC_ok {K : PySem.W.Frag} {T : Tab} {d : Nat} {ns : List String} {cs : List (Nat × Bool)} (h1 : ∀ n ∈ ns, PySem.W.kitOne K (.type n) (.ref (T.ca d)) = some false) (h2 : ∀ q ∈ cs, PySem.W.kitOne K (.ref (T.ca q.1)) (.ref (T.ca d)) = some q.2) :
    ∀ t r, ansC ns cs t = some r → PySem.W.kitOne K (t.val T) ((CR.own d).val T) = some r := by
  intro t r e
  cases t with
  | ty m =>
    have e2 : (if ns.contains m then some false else none) = some r := e
    split at e2
    · rename_i hc
      cases e2
      exact h1 m (by simpa using hc)
    · cases e2
  | own c =>
    have e2 : cs.lookup c = some r := e
    exact h2 (c, r) (look_mem e2)
end Pd

set_option maxHeartbeats 2000000
/-! PdL: the facts as a printed walk asks for them. -/
namespace Pd
open PySem PySem.Spec L2
def sDead : FS := fun _ => none
def eDead : FE := fun _ => none
/-- what is known of a module -/
def FxP (fa : List He.Fa) (fn : List DefP) (bs : List (PySem.W.Frag → Bool)) (P : Program) (K : PySem.W.Frag) (mg : Str → Option Value) : Prop := P.given.tree = none ∧ ∃ h : Heap, K.In h ∧ h.Ns mainGlobals mg ∧ TellsP fa fn (fun K => bs.all fun b => b K) K
section
variable {fa : List He.Fa} {fn : List DefP} {bs : List (PySem.W.Frag → Bool)} {P : Program} {K : PySem.W.Frag} {mg : Str → Option Value} {T : Tab}
theorem FxP.free (fx : FxP fa fn bs P K mg) (i : Nat) {x : Str} (h : fa[i]? = some (.free x) := by rfl) : mg x = none := by
  obtain ⟨_, hp, X, G, c⟩ := fx
  exact He.free_ok X G (c.fact i h)
theorem FxP.glo (fx : FxP fa fn bs P K mg) (i : Nat) {x : Str} (h : fa[i]? = some (.glo x) := by rfl) : mg x = some (.ref (He.ga K x)) := by
  obtain ⟨_, hp, X, G, c⟩ := fx
  exact He.glo_ok X G (c.fact i h)
theorem FxP.fact (fx : FxP fa fn bs P K mg) (i : Nat) {q : He.Fa} (h : fa[i]? = some q := by rfl) : q.ok K = true := by
  obtain ⟨_, hp, X, G, c⟩ := fx
  exact c.fact i h
theorem FxP.bool (fx : FxP fa fn bs P K mg) (i : Nat) {b : PySem.W.Frag → Bool} (h : bs[i]? = some b := by rfl) : b K = true := by
  obtain ⟨_, hp, X, G, c⟩ := fx
  exact List.all_eq_true.mp c.more b (List.mem_of_getElem? h)
theorem FxP.blt (fx : FxP fa fn bs P K mg) (i : Nat) {x : Str} {id : String} (h : bs[i]? = some (bltB x id) := by rfl) : mg x = some (.builtin id) := by
  have b := fx.bool i h
  obtain ⟨_, hp, X, G, c⟩ := fx
  exact bltB_ok X G b
theorem FxP.fun_ (fx : FxP fa fn bs P K mg) (i : Nat) {d : DefP} (h : fn[i]? = some d := by rfl) : ∃ fd, FunD K d.nm d.qn d.par d.bod d.sco (d.dv K) [] (d.loc K) fd := by
  obtain ⟨_, hp, X, G, c⟩ := fx
  exact c.fun_ i h
theorem FxP.cls (fx : FxP fa fn bs P K mg) (i : Nat) {x : Str} (h : fa[i]? = some (.cls x) := by rfl) : Cls K (He.ga K x) := He.cls_ok (fx.fact i h)
theorem FxP.noat (fx : FxP fa fn bs P K mg) (i : Nat) {x f : Str} (h : fa[i]? = some (.noat x f) := by rfl) : NoAttr K (He.ga K x) f := He.noat_ok (fx.fact i h)
theorem FxP.meth (fx : FxP fa fn bs P K mg) (i : Nat) {x m : Str} (h : fa[i]? = some (.meth x m) := by rfl) : Meth K (He.ga K x) m (atM x m K) := He.meth_ok (fx.fact i h)
theorem FxP.mkr (fx : FxP fa fn bs P K mg) (i : Nat) {x : Str} (h : fa[i]? = some (.mkr x) := by rfl) : Mk K (He.ga K x) (atM x "__init__" K) := He.mkr_ok (fx.fact i h)
/-- the law's own def -/
theorem law_of {h : Heap} {f : Addr} (X : K.In h) (G : h.Ns mainGlobals mg) (c : TellsP fa fn (fun K => bs.all fun b => b K) K) {x : Str} (hfa : mg x = some (.ref f)) (i j : Nat) {d : DefP} (h1 : fn[i]? = some d) (h2 : fa[j]? = some (.glo x)) (hl : d.loc K = He.ga K x) (hd : d.df = [])
    {p : Str} (hb : ∀ (kV doc pm : Value) (an : Option Addr) (cdv ct : Value) (us : List Value), us.length = 1 → bindArgs (PySem.W.fnOf d.nm d.qn d.par d.bod d.sco .none kV doc pm an cdv ct) ⟨us, []⟩ = pure ([p].zip us)) :
    ∃ fd, FunD K d.nm d.qn d.par d.bod d.sco [] [] f fd ∧ ∀ (s : Shared) (v : Value), BindsTo s fd ⟨[v], []⟩ [(p, v)] := by
  obtain ⟨fd, F⟩ := c.fun_ i h1
  have e := hfa.symm.trans (He.glo_ok X G (c.fact j h2))
  cases e
  have F2 : FunD K d.nm d.qn d.par d.bod d.sco [] [] (He.ga K x) fd := by
    rw [← hl]
    have : d.dv K = [] := by unfold DefP.dv; rw [hd]; rfl
    rw [← this]
    exact F
  exact ⟨fd, F2, fun s v => FunD.bindsA (ps := [p]) F2 hb s [v] rfl⟩
theorem convI_full {fd : FuncData} {ps ks : List Str} {n : Nat} (h : ConvI K T fd ps n ks (fun ds _ => ds ++ [])) : ConvI K T fd ps n ks (fun ds _ => ds) := by
  simpa only [List.append_nil] using h
theorem conv_full {fd : FuncData} {ps ks : List Str} {n : Nat} (h : Conv K T fd ps n ks (fun ds _ => ds ++ [])) : Conv K T fd ps n ks (fun ds _ => ds) := by
  simpa only [List.append_nil] using h
end
section
variable {X : Cx} {T : Tab} {W : WX} {a : Expr} {fa : FE} {p q2 pos : Pos}
/-- isinstance(e, T) for a built-in T, own classes of cs among the asked -/
theorem pd_isT (n : String) (cs : List Nat) (hk : ∀ c ∈ cs, PySem.W.kitOne X.K (.ref (T.ca c)) (.type n) = some false ∧ IsiC X.K T c) (hm : X.mg "isinstance" = none) (hmn : X.mg (Str.ofString n) = none) (ha : PD X T W a fa) (hv : bootBuiltins (Str.ofString n) = some (.type n)) (hgn : Gl X (Str.ofString n) := by rfl)
    (hnn : (Str.ofString n) ≠ "__name__" := by decide) (hd : ((Str.ofString n) == ("__debug__" : Str)) = false := by decide)
    (hg : Gl X "isinstance" := by rfl) (hs : starEach (a :: [.Name (Str.ofString n) q2]) X.env = (false, eval a X.env) :: starEach [.Name (Str.ofString n) q2] X.env := by rfl) (hs2 : starEach (.Name (Str.ofString n) q2 :: []) X.env = (false, eval (.Name (Str.ofString n) q2) X.env) :: starEach [] X.env := by rfl)
    (hpl : (backTo pos (starEach [.Name (Str.ofString n) q2] X.env)).any (·.1) = false := by rfl) : PD X T W (.Call (.Name "isinstance" p) [a, .Name (Str.ofString n) q2] [] pos) (e1 (gIsi (ansB n cs)) fa) :=
  pd_isi (.ty n) (ansB_ok fun c hc => (hk c hc).1) (fun c r h => by
    have e2 : (if cs.contains c then some false else none) = some r := h
    split at e2
    · rename_i hc
      exact (hk c (by simpa using hc)).2
    · cases e2) hm ha (pe_bltn hgn hmn hv rfl hnn hd) hg hs hs2 hpl
/-- isinstance(e, C) for an own class C -/
theorem pd_isC (d : Nat) (ns : List String) (cs : List (Nat × Bool)) {x : Str} (h1 : ∀ n ∈ ns, PySem.W.kitOne X.K (.type n) (.ref (T.ca d)) = some false) (h2 : ∀ q ∈ cs, PySem.W.kitOne X.K (.ref (T.ca q.1)) (.ref (T.ca d)) = some q.2 ∧ IsiC X.K T q.1)
    (hm : X.mg "isinstance" = none) (hx : X.mg x = some (.ref (T.ca d))) (ha : PD X T W a fa) (hgx : Gl X x := by rfl) (hdb : (x == ("__debug__" : Str)) = false := by decide)
    (hg : Gl X "isinstance" := by rfl) (hs : starEach (a :: [.Name x q2]) X.env = (false, eval a X.env) :: starEach [.Name x q2] X.env := by rfl) (hs2 : starEach (.Name x q2 :: []) X.env = (false, eval (.Name x q2) X.env) :: starEach [] X.env := by rfl)
    (hpl : (backTo pos (starEach [.Name x q2] X.env)).any (·.1) = false := by rfl) : PD X T W (.Call (.Name "isinstance" p) [a, .Name x q2] [] pos) (e1 (gIsi (ansC ns cs)) fa) :=
  pd_isi (.own d) (ansC_ok h1 fun q hq => (h2 q hq).1) (fun c r h => (h2 (c, r) (look_mem h)).2) hm ha (pe_glob hgx hx rfl hdb) hg hs hs2 hpl
/-- a statement that is not reached -/
theorem pds_dead {st : Stmt} : PDS X T W st sDead := ⟨fun pins s σ H D I ⟨H0, Z0, env, Z, out, h, _⟩ => by cases h⟩
theorem pd_dead {e : Expr} : PD X T W e eDead := ⟨fun pins s σ H Q I ⟨H0, Z0, env, Z, out, h, _⟩ => by cases h⟩
end
end Pd

set_option maxHeartbeats 2000000
/-! PdO: tables by class. -/
namespace Pd
open PySem PySem.Spec L2
def tbl {α : Type} (l : List (Nat × α)) (c : Nat) : Option α := l.lookup c
theorem tbl_mem {α : Type} {c : Nat} {r : α} : ∀ {l : List (Nat × α)}, tbl l c = some r → (c, r) ∈ l
  | [], h => by cases h
  | (d, b) :: l, h => by
    by_cases e : c = d
    · subst e
      have h2 : ((c, b) :: l).lookup c = some r := h
      simp [List.lookup] at h2
      subst h2
      exact List.mem_cons_self
    · have eb : (c == d) = false := beq_eq_false_iff_ne.mpr e
      have h2 : ((d, b) :: l).lookup c = some r := h
      simp only [List.lookup, eb] at h2
      exact List.mem_cons_of_mem _ (tbl_mem h2)
theorem tbl_all {α : Type} {l : List (Nat × α)} {Q : Nat → α → Prop} (h : ∀ q ∈ l, Q q.1 q.2) : ∀ c r, tbl l c = some r → Q c r := fun c r e => h (c, r) (tbl_mem e)
theorem all_nil {β : Type} {Q : β → Prop} : ∀ q ∈ ([] : List β), Q q := fun q h => (nomatch h)
theorem all_cons {β : Type} {Q : β → Prop} {a : β} {l : List β} (h : Q a) (t : ∀ q ∈ l, Q q) : ∀ q ∈ a :: l, Q q := fun q hq => by
  rcases List.mem_cons.mp hq with e | e
  · rw [e]; exact h
  · exact t q e
/-- a method's function, its arguments counted -/
def mfn (n : Nat) (gD : List Dt → List Dt) (fn : Fn) : Fn := fun ds => if ds.length = n then fn (gD ds) else none
theorem mfn_run {n : Nat} {gD : List Dt → List Dt} {fn : Fn} {ds : List Dt} (h : ds.length = n := by rfl) : mfn n gD fn ds = fn (gD ds) := if_pos h
section
variable {P : Program} {w : World} {K : PySem.W.Frag} {mg : Str → Option Value} {base : Heap} {T : Tab} {j k c n : Nat} {m f : Str} {gD : List Dt → List Dt} {fn : Fn}
theorem MethOk.mono (h : MethOk P w K mg base T j c m n gD fn) (hj : j ≤ k) : MethOk P w K mg base T k c m n gD fn := by
  obtain ⟨h1, h2, g, fd, ps, a, b, F⟩ := h
  exact ⟨h1, h2, g, fd, ps, a, b, F.mono hj⟩
theorem PropOk.mono (h : PropOk P w K mg base T j c f fn) (hj : j ≤ k) : PropOk P w K mg base T k c f fn := by
  obtain ⟨h1, p, g, fd, ps, a, b, F⟩ := h
  exact ⟨h1, p, g, fd, ps, a, b, F.mono hj⟩
theorem ClsG.mono {x : Str} {fi : FI} (h : ClsG P w K mg base T j x c n gD fi) (hj : j ≤ k) : ClsG P w K mg base T k x c n gD fi := by
  obtain ⟨g, fd, ps, a, b, d, e, F⟩ := h
  exact ⟨g, fd, ps, a, b, d, e, F.mono hj⟩
theorem DefG.mono {x : Str} (h : DefG P w K mg base T j x n gD fn) (hj : j ≤ k) : DefG P w K mg base T k x n gD fn := by
  obtain ⟨g, fd, ps, a, b, d, F⟩ := h
  exact ⟨g, fd, ps, a, b, d, F.mono hj⟩
end
section
variable {X : Cx} {T : Tab} {k c n : Nat} {m : Str} {gD : List Dt → List Dt} {fn : Fn} {l : List (Nat × Fn)}
theorem meths_nil : MethsOk X T k m n (tbl []) := fun c fn h => (nomatch h)
theorem meths_cons (h : MethOk X.prog X.w X.K X.mg X.base T k c m n gD fn) (t : MethsOk X T k m n (tbl l)) : MethsOk X T k m n (tbl ((c, mfn n gD fn) :: l)) := fun c' fn' h' => by
  by_cases e : c' = c
  · subst e
    have h2 : ((c', mfn n gD fn) :: l).lookup c' = some fn' := h'
    simp [List.lookup] at h2
    subst h2
    exact ⟨gD, fn, h, rfl⟩
  · have eb : (c' == c) = false := beq_eq_false_iff_ne.mpr e
    have h2 : ((c, mfn n gD fn) :: l).lookup c' = some fn' := h'
    simp only [List.lookup, eb] at h2
    exact t c' fn' h2
end
end Pd

set_option maxHeartbeats 2000000
/-! PdP: raise. -/
namespace Pd
open PySem PySem.Spec L2
def sRaise (c : Nat) : FS := fun ρ => some (.xc c [] ρ)
/-- what a raise asks of a class below ValueError -/
structure ExcK (K : PySem.W.Frag) (C : Addr) : Prop where
  ex : PySem.W.excIn K C He.veBase "ValueError.__new__" = true ∧ PySem.W.keepIn K (.ref C) = true ∧ PySem.W.subIn K (.ref C) (.type "BaseException") = some true ∧ PySem.W.typeIn K (.ref C) = some (.type "type")
theorem FxP.exc {fa : List He.Fa} {fn : List DefP} {bs : List (PySem.W.Frag → Bool)} {P : Program} {K : PySem.W.Frag} {mg : Str → Option Value} (fx : FxP fa fn bs P K mg) (i : Nat) {x : Str} (h : fa[i]? = some (.exc x) := by rfl) : ExcK K (He.ga K x) := ⟨He.exc_ok (fx.fact i h)⟩
section
variable {X : Cx} {T : Tab} {W : WX} {x m : Str} {j : Nat} {p p2 pos rpos : Pos}
theorem pds_raise (c : Nat) (hc : X.calm = true) (tk : Takes X W) (k : ExcK X.K (T.ca c)) (gC : X.mg x = some (.ref (T.ca c))) (hg : Gl X x := by rfl) (hdb : (x == ("__debug__" : Str)) = false := by decide) :
    PDS X T W (.Raise (some (.Call (.Name x p) [.Constant (.str m) j p2] [] pos)) none rpos) (sRaise c) := by
  obtain ⟨e1, e2, e3, e4⟩ := k.ex
  refine PS.imp (ps_raise hc tk (pmk_own PySem.F.excBase_ValueError e1 gC e2 (raises_own e3 e4) hg hdb)) fun D σ H ⟨H0, Z0, env, Z, out, h, s, po⟩ => ?_
  cases h
  exact po.xc _ _ _ rfl _ _ σ Z H s ⟨rfl, .inl ⟨rfl, rfl⟩⟩
end
end Pd

set_option maxHeartbeats 2000000
/-! PdX: try .. except, the handler returns a truth value. -/
namespace Pd
open PySem PySem.Spec L2
/-- what is asked of a caught error's class -/
def excB (C : Str) (K : PySem.W.Frag) : Bool := He.eqO (PySem.W.findIn K (.ref (He.ga K C)) "__getattribute__") (some (some (.builtin "BaseException.__getattribute__"))) && (He.eqO (PySem.W.findIn K (.ref (He.ga K C)) "__getattr__") (some none) &&
  (decide (PySem.W.subIn K (.ref (He.ga K C)) (.type "BaseException") = some true) && (PySem.W.hasDictIn K (He.ga K C) && (He.eqO (PySem.W.findIn K (.ref (He.ga K C)) "__class__") (some (some (.builtin "object.__class__"))) && decide (PySem.W.mroIn K (He.ga K C) (.type "object") = some true)))))
theorem excB_ok {C : Str} {K : PySem.W.Frag} (c0 : isi0 K = true) (c : excB C K = true) : ExcC K (He.ga K C) := by
  unfold excB at c
  simp only [Bool.and_eq_true] at c
  obtain ⟨c1, c2, c3, c4, c5, c6⟩ := c
  obtain ⟨a1, a2⟩ := Bool.and_eq_true_iff.mp c0
  exact ⟨He.eqO_ok c1, He.eqO_ok c2, of_decide_eq_true c3, c4, He.eqO_ok c5, He.eqO_ok a1, of_decide_eq_true a2, of_decide_eq_true c6⟩
def kitCV (C : Str) (b : Bool) (K : PySem.W.Frag) : Bool := decide (PySem.W.kitOne K (.ref (He.ga K C)) (.type "ValueError") = some b)
/-- the reading of a test of the error at slot i -/
def tK (i : Nat) (a : Addr) (b : Bool) : TE := fun σ H Q => σ[i]? = some (some (.ref a)) ∧ Q (.bl b) H
section
variable {X : Cx} {T : Tab} {i : Nat} {a : Addr} {b b' : Bool} {x y : Str} {p q1 q2 pos : Pos} {e e' : Expr} {rest : List Expr}
theorem pk_not (h : PE X e (tK i a b)) : PE X (.UnaryOp .Not e pos) (tK i a (!b)) := PE.imp (pe_not h) fun σ H Q ⟨s, q⟩ => ⟨s, b, rfl, q⟩
theorem pk_val (h : PE X e (tK i a b)) (hb : b = b') : PE X e (tK i a b') := hb ▸ h
theorem pk_one {op} (h : PE X e (tK i a b)) : PE X (.BoolOp op [e] pos) (tK i a b) := pe_one h
theorem pk_and (h : PE X e (tK i a b)) (t : PE X (.BoolOp .And (e' :: rest) pos) (tK i a b')) : PE X (.BoolOp .And (e :: e' :: rest) pos) (tK i a (b && b')) := PE.imp (pe_and h t) fun σ H Q ⟨s, q⟩ => by
  refine ⟨s, b, rfl, ?_⟩
  cases b with
  | true => exact iteT ⟨s, q⟩
  | false => exact iteF q
theorem pk_is {oe : Obj} {pn : List (Addr × Obj)} {D : Addr} {v : V} {cv : Value} (C : ExcC X.K D) (hz : Zc (.ref D) none oe) (hf : ∃ vs, oe.data = .fields vs) (hm : X.mg "isinstance" = none) (hcls : PE (X.suite a ((a, oe) :: pn)) (.Name y q2) (tC v)) (hv : ∀ u, RelV v u → u = cv)
    (hk : PySem.W.kitOne X.K (.ref D) cv = some b) (hN : X.N[i]? = some x := by rfl) (hvis : Vis X.env.scope x := by first | exact Or.inl rfl | exact Or.inr (Or.inl rfl) | exact Or.inr (Or.inr rfl)) (hd : (x == ("__debug__" : Str)) = false := by decide) (hcd : (x == ("__classdict__" : Str)) = false := by decide)
    (hg : Gl X "isinstance" := by rfl) (hs : starEach (.Name x q1 :: [.Name y q2]) X.env = (false, eval (.Name x q1) X.env) :: starEach [.Name y q2] X.env := by rfl) (hs2 : starEach (.Name y q2 :: []) X.env = (false, eval (.Name y q2) X.env) :: starEach [] X.env := by rfl)
    (hpl : (backTo pos (starEach [.Name y q2] X.env)).any (·.1) = false := by rfl) : PE (X.suite a ((a, oe) :: pn)) (.Call (.Name "isinstance" p) [.Name x q1, .Name y q2] [] pos) (tK i a b) := by
  have hc : CallR (X.suite a ((a, oe) :: pn)) (.builtin "isinstance") (rIsE X.K D a) := call_isE C hz hf
  refine PE.imp (pe_callB (X := X.suite a ((a, oe) :: pn)) hc hg hm PyProof.Rows.boot_isinstance (pa_cons (pe_var (X := X.suite a ((a, oe) :: pn)) hN hvis hd hcd) (pa_cons hcls pa_nil hs2) hs) (by decide) (by decide) hs hpl) fun σ H Q ⟨s, q⟩ => ?_
  exact ⟨_, s, v, cv, b, rfl, hv, hk, q⟩
theorem names_own {x : Str} {u : Addr} (hm : X.mg x = some (.ref u)) (hg : Gl X x := by rfl) (hdb : (x == ("__debug__" : Str)) = false := by decide) : Names X x (.ref u) := ⟨hg, hdb, .inl hm⟩
theorem setJunk {K : PySem.W.Frag} {T : Tab} {H0 Z H : Hp} {Z0 : Hx} {env : PEnv} {σ : St} (s : SI K T H0 Z0 env σ Z H) (i : Nat) (v : Option V) : SI K T H0 Z0 (env.set i none) (σ.set i v) Z H := by
  have none_at : ∀ (j : Nat), i = j → ∀ c : Cel, (env.set i none)[j]? ≠ some (some c) := fun j e c h => by
    subst e
    by_cases hi : i < env.length
    · rw [List.getElem?_set_self hi] at h; cases h
    · rw [List.getElem?_eq_none (by simpa using hi)] at h; cases h
  have own_at : ∀ (j : Nat), isOwnC ((env.set i none)[j]?) → i ≠ j ∧ isOwnC env[j]? := fun j h => by
    by_cases e : i = j
    · exfalso
      generalize hx : (env.set i none)[j]? = x at h
      match x, h with
      | some (some (.own es)), _ => exact none_at j e _ hx
      | some (some (.mk c es)), _ => exact none_at j e _ hx
    · rw [List.getElem?_set_ne e] at h
      exact ⟨e, h⟩
  refine ⟨s.ext, by simp [s.len], fun m cl hm => ?_, fun m k u hmk a1 a2 a3 a4 => ?_, fun m c ds w hm h' => ?_⟩
  · have ne : i ≠ m := fun e => none_at m e cl hm
    rw [List.getElem?_set_ne ne] at hm
    obtain ⟨u, g1, g2⟩ := s.cell m cl hm
    exact ⟨u, by rw [List.getElem?_set_ne ne]; exact g1, g2⟩
  · obtain ⟨n1, o1⟩ := own_at m a1
    obtain ⟨n2, o2⟩ := own_at k a2
    rw [List.getElem?_set_ne n1] at a3
    rw [List.getElem?_set_ne n2] at a4
    exact s.sep m k u hmk o1 o2 a3 a4
  · have ne : i ≠ m := fun e => none_at m e _ hm
    rw [List.getElem?_set_ne ne] at hm h'
    exact s.me m c ds w hm h'
theorem pd_cat {T : Tab} {W : WX} {a c : Expr} {fa fb : FE} {pos : Pos} (ha : PD X T W a fa) (hb : PD X T W c fb) : PD X T W (.BinOp a .Add c pos) (e2 gCat fa fb) := pd_op op_catL o2_cat ha hb
theorem pd_rep {T : Tab} {W : WX} {a c : Expr} {fa fb : FE} {pos : Pos} (ha : PD X T W a fa) (hb : PD X T W c fb) : PD X T W (.BinOp a .Mult c pos) (e2 gRep fa fb) := pd_op op_rep o2_rep ha hb
/-! ### the rule -/
/-- F; an error of a class that hit catches: its truth value is returned -/
def sTry (i : Nat) (hit res : Nat → Option Bool) (F : FS) : FS := fun ρ => match F ρ with
  | some (.xc c ds ρ') => if ds = [] ∧ i < ρ'.length then (match hit c with
    | some true => match res c with
      | some b => some (.rt (.fro (.bl b)))
      | none => none
    | some false => some (.xc c ds ρ')
    | none => none) else none
  | o => o
end
section
variable {X : Cx} {T : Tab} {W : WX} {i : Nat} {x n : Str} {np rp pos pos' : Pos} {E : Expr} {body : List Stmt} {F : FS} {u : Addr}
theorem pds_tryAs (hit res : Nat → Option Bool) (hs : X.stack = X.env :: X.outer) (hf : X.env.frame = some X.env.locals) (hN : X.N.Nodup) (hi : X.N[i]? = some n) (hln : X.env.kindOf n = some .local) (hc : Names X x (.ref u)) (tk : Takes X W)
    (hb : ∀ (W' : WX) (pn : List (Addr × Obj)) (xe : Value → Shared → Prop), Takes (X.tr pn xe) W' → PassesOwn (model X.prog X.w) X.A X.env xe → PDSs (X.tr pn xe) T W' body F)
    (hh : ∀ c b, hit c = some b → PySem.W.exmOne X.K (.ref (T.ca c)) (.ref u) = some b)
    (hE : ∀ c r, res c = some r → ∀ (a : Addr) (oe : Obj) (pn : List (Addr × Obj)), Zc (.ref (T.ca c)) none oe → (∃ vs, oe.data = .fields vs) → PE (X.suite a ((a, oe) :: pn)) E (tK i a r)) :
    PDS X T W (.Try body [.ExceptHandler (some (.Name x np)) (some n) [.Return (some E) rp] pos'] [] [] pos) (sTry i hit res F) := by
  refine PS.imp (ps_try_as (i := i) (tb := fun W' => tDS X.K T W' F) (ts := fun a cls d D σ H => ∃ c r, cls = .ref (T.ca c) ∧ d = none ∧ res c = some r ∧ σ[i]? = some (some (.ref a)) ∧ D.rt (.bl r) H) hs hf hN hi hln hc tk (fun W' pn xe t po => hb W' pn xe t po) fun a oe cls d pn hz hd => ?_) fun D σ H ⟨H0, Z0, env, Z, out, h, s, po⟩ => ?_
  · refine ⟨fun pins s σ H D I hh => ?_⟩
    obtain ⟨c, r, rfl, rfl, hr, hσ, q⟩ := hh
    exact (pss_one (ps_ret (hE c r hr a oe pn hz hd))).run pins s σ H D I ⟨hσ, q⟩
  · unfold sTry at h
    cases hF : F env with
    | none => rw [hF] at h; cases h
    | some o =>
      rw [hF] at h
      cases o with
      | nx ρ' => cases h; exact ⟨H0, Z0, env, Z, _, hF, s, po.nx, fun r q => (nomatch q), fun r q => (nomatch q), fun r q => (nomatch q), fun c ds r q => (nomatch q)⟩
      | rt r => cases h; exact ⟨H0, Z0, env, Z, _, hF, s, fun r q => (nomatch q), po.rt, fun r q => (nomatch q), fun r q => (nomatch q), fun c ds r q => (nomatch q)⟩
      | bk ρ' => cases h; exact ⟨H0, Z0, env, Z, _, hF, s, fun r q => (nomatch q), fun r q => (nomatch q), po.bk, fun r q => (nomatch q), fun c ds r q => (nomatch q)⟩
      | ct ρ' => cases h; exact ⟨H0, Z0, env, Z, _, hF, s, fun r q => (nomatch q), fun r q => (nomatch q), fun r q => (nomatch q), po.ct, fun c ds r q => (nomatch q)⟩
      | xc c ds ρ' =>
        refine ⟨H0, Z0, env, Z, _, hF, s, fun r q => (nomatch q), fun r q => (nomatch q), fun r q => (nomatch q), fun r q => (nomatch q), fun c' ds' env' q cls d σ' Z' H' s' xr => ?_⟩
        cases q
        dsimp only at h
        split at h
        · rename_i hds
          obtain ⟨hds, hil⟩ := hds
          subst hds
          obtain ⟨rfl, hx⟩ := xr
          obtain ⟨_, rfl⟩ | ⟨_, _, _, _, z, _⟩ := hx
          · split at h
            · rename_i ht
              split at h
              · rename_i r hr
                cases h
                refine ⟨true, hh _ _ ht, fun _ a na => ?_, fun z => (nomatch z)⟩
                have hlen : i < σ'.length := by rw [← s'.len]; exact hil
                exact ⟨c, r, rfl, rfl, hr, by rw [List.getElem?_set_self hlen], po.rt _ rfl _ Z' H' s'.ext (by simp only [RRep, Rep])⟩
              · cases h
            · rename_i ht
              cases h
              exact ⟨false, hh _ _ ht, fun z => (nomatch z), fun _ => po.xc _ _ _ rfl _ _ σ' Z' H' s' ⟨rfl, .inl ⟨rfl, rfl⟩⟩⟩
            · cases h
          · cases z
        · cases h
end
end Pd

set_option maxHeartbeats 2000000
/-! PdAA: zip of two lists, reversed of a list or a tuple. -/
namespace Pd
open PySem PySem.Spec L2 RT
section
variable {K : PySem.W.Frag} {T : Tab} {Z1 H1 : Hp}
theorem rev_get {α : Type} {xs : List α} {i : Nat} (h : i < xs.length) : xs.reverse[i]? = xs[xs.length - 1 - i]? := by
  rw [List.getElem?_reverse h]
theorem itD_revL {a : Addr} {vs : List V} {ds : List Dt} (h : SqL K Z1 a vs) (r : Reps K T Z1 ds vs) : ItD K T (Itv K a vs.length) Z1 H1 ds.reverse := by
  refine ⟨fun i d Z H l1 l2 hd => ?_, fun i Z H l1 l2 hi => ?_⟩
  · have hi : i < ds.length := by
      have := (List.getElem?_eq_some_iff.mp hd).1
      rwa [List.length_reverse] at this
    rw [rev_get hi] at hd
    obtain ⟨w, g1, g2⟩ := r.get hd
    rw [← r.length] at g1
    refine ⟨⟨by rw [r.length]; exact hi, vs, w, l2.seqL (l1.seqL h), g1⟩, fun x H' ⟨e, y⟩ => ?_⟩
    subst e
    have := y vs (l2.seqL (l1.seqL h))
    rw [g1] at this
    cases this
    exact ⟨Z, Ext4.refl l2, g2.mono l1⟩
  · show vs.length ≤ i
    rw [r.length]
    rwa [List.length_reverse] at hi
theorem itD_revT {a : Addr} {vs : List V} {ds : List Dt} (h : SqT K Z1 a vs) (r : Reps K T Z1 ds vs) : ItD K T (ItvT K a vs.length) Z1 H1 ds.reverse := by
  refine ⟨fun i d Z H l1 l2 hd => ?_, fun i Z H l1 l2 hi => ?_⟩
  · have hi : i < ds.length := by
      have := (List.getElem?_eq_some_iff.mp hd).1
      rwa [List.length_reverse] at this
    rw [rev_get hi] at hd
    obtain ⟨w, g1, g2⟩ := r.get hd
    rw [← r.length] at g1
    refine ⟨⟨by rw [r.length]; exact hi, vs, w, l2.seqT (l1.seqT h), g1⟩, fun x H' ⟨e, y⟩ => ?_⟩
    subst e
    have := y vs (l2.seqT (l1.seqT h))
    rw [g1] at this
    cases this
    exact ⟨Z, Ext4.refl l2, g2.mono l1⟩
  · show vs.length ≤ i
    rw [r.length]
    rwa [List.length_reverse] at hi
end
def iRevS (f : FE) : FIt := fun ρ => bnd (f ρ) fun r => bnd (frz r) fun d => match asSeq d with
  | some ds => some (.ok ds.reverse)
  | none => none
section
variable {X : Cx} {T : Tab} {W : WX} {tg e : Expr} {f : FE} {p pos : Pos}
theorem pdi_rev (hm : X.mg "reversed" = none) (he : PD X T W e f) (hg : Gl X "reversed" := by rfl) (hs : starEach [e] X.env = (false, eval e X.env) :: starEach [] X.env := by rfl) : PDI X T W tg (.Call (.Name "reversed" p) [e] [] pos) (iRevS f) := by
  refine PI.imp (pi_revA hg hm he hs) fun σ H R ⟨H0, Z0, env, Z, out, h, s, p⟩ => ?_
  unfold iRevS at h
  rcases bnd_cases h with ⟨c, ds, q1, q2⟩ | ⟨r, q1, q2⟩
  · exact ⟨H0, Z0, env, Z, _, q1, s, fun r q => (nomatch q), fun c' ds' q cls d Z' H' e x => by cases q; exact p.ex _ _ q2 cls d Z' H' e x⟩
  · rcases bnd_cases q2 with ⟨c, ds, q3, q4⟩ | ⟨d, q3, q4⟩
    · cases r <;> cases q3
    · refine ⟨H0, Z0, env, Z, _, q1, s, fun r' q v Z' H' x rr => ?_, fun c' ds' q => (nomatch q)⟩
      cases q
      obtain ⟨Z2, x2, _, rd⟩ := rr.freeze q3 x
      cases d with
      | lst ds =>
        cases q4
        simp only [Rep] at rd
        obtain ⟨q, vs, rfl, g1, g2⟩ := rd
        exact ⟨q, vs, rfl, .inl ⟨x2.zh.seqL g1, p.ok _ rfl _ Z2 H' x2 (itD_revL g1 g2)⟩⟩
      | tup ds =>
        cases q4
        simp only [Rep] at rd
        obtain ⟨q, vs, rfl, g1, g2⟩ := rd
        exact ⟨q, vs, rfl, .inr ⟨x2.zh.seqT g1, p.ok _ rfl _ Z2 H' x2 (itD_revT g1 g2)⟩⟩
      | _ => cases q4
end
end Pd

set_option maxHeartbeats 4000000
/-! PdAB: enumerate over a tuple. -/
namespace PySem
open AutoSeq1 (wpAny_loadPart')
theorem pd_meets_enumT (l : Addr) (o : Obj) (items : Array Value) (hI : o.cls = .type "tuple") (n : Nat) (hd : o.data = .seq items n) :
    Meets (Builtin.«enumerate.__new__» ⟨[.type "enumerate", .ref l], []⟩) (fun _ R s => s.heap.get? l = some o ∧
      R (.ok (.ret (.ref (s.heap.push { cls := .type "tuple_iterator", data := .fields #[.ref l, .int 0 0] }).objs.size)))
        { s with heap := (s.heap.push { cls := .type "tuple_iterator", data := .fields #[.ref l, .int 0 0] }).push { cls := .type "enumerate", data := .fields #[.none, .bool false, .ref s.heap.objs.size, rawInt 0, .none, .none] } }) :=
  .of_wp fun prog w A R s h => by
    obtain ⟨hp, g, d, tk, os⟩ := s; obtain ⟨hl, h⟩ := h
    have hsub := sub_enumerate
    obtain ⟨c, dct, dt, sl⟩ := o
    replace hI : c = .type "tuple" := hI
    replace hd : dt = .seq items n := hd
    subst hI hd
    have hL : Heap.IsTuple (Shared.heap ⟨hp, g, d, tk, os⟩) l items := ⟨_, hl, rfl, n, rfl⟩
    wp_walk using wpAny_loadPart' hl
    refine wpAny_stack_any fun st => wpAny_pure ?_
    split
    · rename_i c _ _ _ _ _
      cases (c == Value.type "enumerate")
      · wp_walk using wpAny_loadPart' hl, wpAny_pyIter_tuple hL
        exact ⟨_, rfl, h⟩
      · wp_walk using wpAny_loadPart' hl, wpAny_pyIter_tuple hL
        exact ⟨_, rfl, h⟩
    · wp_walk using wpAny_loadPart' hl, wpAny_pyIter_tuple hL
      exact ⟨_, rfl, h⟩
section
variable {prog : Program} {w : World} {A : Around} {E : Value → Shared → Prop} {s : Shared}
theorem pd_call_enumT {l : Addr} {items : Array Value} {Q : Value → Shared → Prop} (hL : s.heap.IsTuple l items)
    (h : ∀ h', IsEnum h' (s.heap.objs.size + 1) s.heap.objs.size 0 .none → h'.IsTupleIter s.heap.objs.size l 0 → h'.objs.size = s.heap.objs.size + 2 →
      (∀ b o, s.heap.get? b = some o → h'.get? b = some o) → Q (.ref (s.heap.objs.size + 1)) { s with heap := h' }) :
    wpAny (model prog w) A (call (.type "enumerate") [.ref l]) Q E s := by
  obtain ⟨o, hl, hc, n, hd⟩ := hL
  refine callType_new F.called_enumerate (by decide) (F.typeCall_enumerate_1 _) (F.newCall_enumerate_1 _) (fun obj => F.args_object_init_2 obj _) F.entry_enumerate_new
    (pd_meets_enumT l o items hc n hd) ⟨hl, ?_⟩
  have hz : (s.heap.push { cls := .type "tuple_iterator", data := .fields #[.ref l, .int 0 0] }).objs.size = s.heap.objs.size + 1 := Heap.size_push ..
  show _ ∧ _
  rw [hz]
  have he : IsEnum ((s.heap.push { cls := .type "tuple_iterator", data := .fields #[.ref l, .int 0 0] }).push
      { cls := .type "enumerate", data := .fields #[.none, .bool false, .ref s.heap.objs.size, rawInt 0, .none, .none] }) (s.heap.objs.size + 1) s.heap.objs.size 0 .none := by
    have := Heap.get?_push_size (s.heap.push { cls := .type "tuple_iterator", data := .fields #[.ref l, .int 0 0] })
      (o := { cls := .type "enumerate", data := .fields #[.none, .bool false, .ref s.heap.objs.size, rawInt 0, .none, .none] }) rfl
    rw [hz] at this; exact this
  refine ⟨⟨_, he, rfl⟩, h _ he ⟨_, Heap.get?_push_of_some _ (Heap.get?_push_size _ rfl), rfl, rfl⟩ (by rw [Heap.size_push, hz]) fun b o x => Heap.get?_push_of_some _ (Heap.get?_push_of_some _ x)⟩
end
end PySem

set_option maxHeartbeats 4000000
/-! PdAC: the data of enumerate and zip. -/
namespace Pd
open PySem PySem.Spec PyProof.Rows L2 RT RZ
/-- the tuple at a, each item in a new pair -/
def IteT (K : PySem.W.Frag) (a : Addr) (n : Nat) : It :=
  ⟨fun i H => i < n ∧ ∃ (xs : List V) (x : V), xs.length = n ∧ SqT K H a xs ∧ xs[i]? = some x, fun i H v H' => ∃ T x, v = .ref T ∧ H T = none ∧ H' = upd H T (.tup [.int (i : Nat), x]) ∧ ∀ xs, SqT K H a xs → xs[i]? = some x, fun i H => n ≤ i ∧ ∃ xs : List V, xs.length = n ∧ SqT K H a xs⟩
theorem tup_ne_iter {h : Heap} {a it l : Addr} {i : Nat} {items : Array Value} (hT : h.IsTuple a items) (hI : h.IsTupleIter it l i) : a ≠ it := by
  intro e
  subst e
  obtain ⟨o, e1, c1, _⟩ := hT
  obtain ⟨o2, e2, c2, _⟩ := hI
  rw [e1] at e2
  cases e2
  rw [c1] at c2
  simp at c2
theorem tup_ne_enum {h : Heap} {a e it : Addr} {i : Int} {old : Value} {items : Array Value} (hT : h.IsTuple a items) (hI : IsEnum h e it i old) : e ≠ a := by
  intro q
  subst q
  obtain ⟨o, e1, c1, _⟩ := hT
  have e2 : h.get? e = some _ := hI
  rw [e1] at e2
  cases e2
  simp at c1
theorem turn_enumT {P : Program} {w : World} {K : PySem.W.Frag} {elts : List Expr} {kk : Nat} {tpos : Pos} (a e it : Addr) (n : Nat) :
    Turn P w K (.Tuple elts kk tpos) (IteT K a n) [e, it] e (fun i h => i ≤ n ∧ (∃ old, IsEnum h e it ((i : Nat) : Int) old) ∧ h.IsTupleIter it a i ∧ e ≠ it) where
  mem := by simp
  obj := fun i h st b hb => by
    obtain ⟨_, ⟨old, he⟩, ⟨o, ho, hc, hd⟩, _⟩ := st
    have e' : b = e ∨ b = it := by simpa using hb
    rcases e' with z | z
    · rw [z]; exact ⟨_, he, fun v q => nomatch q⟩
    · rw [z]; exact ⟨o, ho, fun v q => by rw [hd] at q; cases q⟩
  keep := fun i h h' st k => let ⟨hn, ⟨old, he⟩, hi, hne⟩ := st; ⟨hn, ⟨old, k e (by simp) _ he⟩, hi.at fun o q => k it (by simp) o q, hne⟩
  item := by
    intro X hP hw hK hc i pins s σ H E I hf st hg
    subst hP hw hK
    obtain ⟨hn, ⟨old, he⟩, hit, hne⟩ := st
    obtain ⟨hin, xs, x, hl, hq, hx⟩ := hg
    obtain ⟨its, rv, p, hz⟩ := I.tuple hq
    obtain ⟨u, hu, ru⟩ := rv.get hx
    have pT : s.heap.IsTuple a its.toArray := p
    have hel : e < s.heap.objs.size := Heap.lt_size he
    have hil : it < s.heap.objs.size := by obtain ⟨_, q, _⟩ := id hit; exact Heap.lt_size q
    have hat := tup_ne_iter pT hit
    have hea := tup_ne_enum pT he
    have hsz0 : its.toArray.size = n := by rw [List.size_toArray, ← hl, rv.length]
    refine wpAny_pyNext_enum_itemD (Draws.tuple (A := X.A.in1) (I.ok.hd hc) it a hat its.toArray) he ⟨hit, pT⟩ (by rw [hsz0]; exact hin) hne (by simp [hne, hea]) fun u' h' tk hu' ho hst' hT hsz hk => ?_
    have eu : u' = u := by
      have h1 : its.toArray[i]? = some u' := hu'
      have h2 : its[i]? = some u := hu
      simp [h2] at h1
      exact h1.symm
    subst eu
    refine ⟨_, rfl, wpAny_letOwnedTupleGo_enum (s := { s with heap := h', toks := tk + 1 }) ho fun h'' he' sb => ?_⟩
    have hT2 : h''.get? s.heap.objs.size = some { cls := .type "tuple", data := .seq #[.int i tk, u'] } := (sb.2 _ (Nat.ne_of_gt hel)).trans hT
    have new : ObjOk X.prog X.w (upd H s.heap.objs.size (.tup [.int (i : Nat), x])) h'' s.heap.objs.size (.tup [.int (i : Nat), x]) :=
      ⟨by show 2 ≤ sizeLine; decide, [.int i tk, u'], .cons ⟨_, rfl⟩ (.cons ru .nil), ⟨_, hT2, rfl, _, rfl⟩⟩
    have I1 : Inv X pins σ (upd H s.heap.objs.size (.tup [.int (i : Nat), x])) { s with heap := h'', toks := tk + 1 } :=
      I.turnedNew (ch := [e, it]) (fun b ob hb q => (sb.2 b (fun z => hb (by simp [z]))).trans (hk b ob (fun z => hb (by simp [z])) (fun z => hb (by simp [z])) q)) hf (Nat.le_refl _) new
    refine ⟨.ref s.heap.objs.size, _, I1, rfl, ⟨_, x, rfl, I.hok.fresh (Nat.le_refl _), rfl, fun ys hy => by rw [I.tuple_inj hy hq]; exact hx⟩, ⟨hin, ⟨u', ?_⟩, hst'.1.at fun o q => (sb.2 it (Ne.symm hne)).trans q, hne⟩, fun b hb => ?_⟩
    · have e1 : ((i + 1 : Nat) : Int) = (i : Int) + 1 := by omega
      rw [e1]; exact he'
    · have hb' : b < s.heap.objs.size := by
        have e' : b = e ∨ b = it := by simpa using hb
        rcases e' with z | z
        · rw [z]; exact hel
        · rw [z]; exact hil
      rw [upd_ne (Nat.ne_of_lt hb')]
      exact (hf b hb).1
  done := by
    intro X hP hw hK hc i pins s σ H E I hf st hg
    subst hP hw hK
    obtain ⟨hn, ⟨old, he⟩, hit, hne⟩ := st
    obtain ⟨hle, xs, hl, hq⟩ := hg
    obtain ⟨its, rv, p, hz⟩ := I.tuple hq
    obtain ⟨f0, f1, f2, f3, f4, f5⟩ := hf it (by simp)
    have pT : s.heap.IsTuple a its.toArray := p
    have hat := tup_ne_iter pT hit
    have hsz0 : its.toArray.size = i := by rw [List.size_toArray, ← rv.length, hl]; omega
    exact wpAny_pyNext_enum_endD (Draws.tuple (A := X.A.in1) (I.ok.hd hc) it a hat its.toArray) he ⟨by rw [hsz0]; exact hit, pT⟩ fun h' eb => ⟨rfl, I.turned (t' := s.toks) (fun b o hb q => eb b o hb q) f0 f1 f3 f4 f5⟩
  self := fun A i s Q E st h => let ⟨_, ⟨_, he⟩, _⟩ := st; wpAny_pyIter_enum he h
def iEnumA (K : PySem.W.Frag) (ta : TA) : TI := fun σ H R => ta σ H fun vs H1 => ∃ a xs, vs = [.ref a] ∧ ((SqL K H1 a xs ∧ R (Ite K a) H1) ∨ (SqT K H1 a xs ∧ R (IteT K a xs.length) H1))
theorem pi_enumA {X : Cx} {e : Expr} {ta : TA} {p pos tpos : Pos} {elts : List Expr} {kk : Nat} (hg : Gl X "enumerate") (hm : X.mg "enumerate" = none) (ha : PA X [e] ta) (hs : starEach [e] X.env = [(false, eval e X.env)] := by rfl) :
    PI X (.Tuple elts kk tpos) (.Call (.Name "enumerate" p) [e] [] pos) (iEnumA X.K ta) := by
  refine ⟨fun pins s σ H R I h => ?_⟩
  refine Call_ (ld_blt I hg hm boot_enumerate (PyProof.Rows.callWith_type1 (thn (ha.run pos pins s σ H _ I h) fun us s1 ⟨vs, H1, I1, r1, q1⟩ => ?_) hs rfl))
  obtain ⟨a, xs, ex, q1⟩ := q1
  subst ex
  cases r1 with
  | cons r rr =>
    cases rr
    cases r
    have fresh2 : ∀ b, b ∈ [s1.heap.objs.size + 1, s1.heap.objs.size] → FpOk X pins H1 b := fun b hb => by
      have e' : b = s1.heap.objs.size + 1 ∨ b = s1.heap.objs.size := by simpa using hb
      have hle : s1.heap.objs.size ≤ b := by
        rcases e' with z | z
        · rw [z]; exact Nat.le_add_right _ _
        · rw [z]; exact Nat.le_refl _
      exact I1.fpOk hle (I1.hok.fresh hle)
    rcases q1 with ⟨hq, q⟩ | ⟨hq, q⟩
    · obtain ⟨its, rv, p', hz⟩ := I1.list hq
      refine call_enumerate_list p'.isList fun h' he hit hsz hk => wpAny_pyIter_enum he ?_
      have I2 : Inv X pins σ H1 { s1 with heap := h' } := I1.kept (t' := s1.toks) hk
      exact ⟨s1.heap.objs.size + 1, [s1.heap.objs.size + 1, s1.heap.objs.size], _, _, H1, rfl, I2, turn_enum a (s1.heap.objs.size + 1) s1.heap.objs.size, ⟨⟨.none, he⟩, hit, Nat.succ_ne_self _⟩, fresh2, q⟩
    · obtain ⟨its, rv, p', hz⟩ := I1.tuple hq
      have pT : s1.heap.IsTuple a its.toArray := p'
      refine pd_call_enumT pT fun h' he hit hsz hk => wpAny_pyIter_enum he ?_
      have I2 : Inv X pins σ H1 { s1 with heap := h' } := I1.kept (t' := s1.toks) hk
      exact ⟨s1.heap.objs.size + 1, [s1.heap.objs.size + 1, s1.heap.objs.size], _, _, H1, rfl, I2, turn_enumT a (s1.heap.objs.size + 1) s1.heap.objs.size xs.length, ⟨Nat.zero_le _, ⟨.none, he⟩, hit, Nat.succ_ne_self _⟩, fresh2, q⟩
end Pd

set_option maxHeartbeats 2000000
/-! PdAD: // by a divisor of any size. -/
namespace Pd
open PySem PySem.Spec PyProof.Rows L2
/-- a namespace whose keys are strings -/
def nsOkB (a : Addr) (K : PySem.W.Frag) : Bool := match K.lookup a with
  | some ⟨_, _, .dict es _, _⟩ => es.toList.all fun e => match e.key with | .str _ _ => true | _ => false
  | _ => false
def nsNoB (a : Addr) (x : Str) (K : PySem.W.Frag) : Bool := match PySem.W.nsIn K a x with
  | some none => true
  | _ => false
def mainB (K : PySem.W.Frag) : Bool := match PySem.W.nsIn K mainGlobals "__builtins__" with
  | some (some (.ref bm)) => (match K.lookup bm with
    | some ob => (match ob.cls with | .type n => n == "module" | _ => false) && decide (ob.dict = some builtinsNs)
    | none => false)
  | _ => false
/-- what // of any size asks of the head -/
def seerB (K : PySem.W.Frag) : Bool := (nsOkB cStatics K && (nsNoB cStatics "sys.audit-hooks" K && nsNoB cStatics "sys.dict" K)) && ((nsOkB sysModules K && nsNoB sysModules "_pylong" K) && mainB K)
theorem nsOkB_ok {a : Addr} {K : PySem.W.Frag} {h : Heap} (X : K.In h) (c : nsOkB a K = true) : ∃ m, h.Ns a m := by
  unfold nsOkB at c
  split at c
  · rename_i cl d es n sl q
    refine ⟨fun x => nsFind es x, _, es, n, X _ _ q, rfl, fun e he => ?_, fun _ => rfl⟩
    have := List.all_eq_true.mp c e (by simpa using he)
    split at this
    · rename_i x t hk; exact ⟨x, t, hk⟩
    · cases this
  · cases c
theorem nsNoB_ok {a : Addr} {x : Str} {K : PySem.W.Frag} {h : Heap} {m : Str → Option Value} (X : K.In h) (G : h.Ns a m) (c : nsNoB a x K = true) : m x = none := by
  have e : PySem.W.nsIn K a x = some none := by
    unfold nsNoB at c
    split at c
    · assumption
    · cases c
  obtain ⟨o, es, ep, ho, hd, _, hf⟩ := G
  unfold PySem.W.nsIn at e
  split at e
  · rename_i c d es' n' sl q
    have := X _ _ q
    rw [ho] at this
    cases this
    cases hd
    split at e
    · cases e
    · rename_i hn
      rw [← hf]
      unfold nsFind findBy
      rw [← Array.find?_toList, hn]
      rfl
  · cases e
theorem seerB_ok {K : PySem.W.Frag} {h : Heap} {mg : Str → Option Value} (X : K.In h) (G : h.Ns mainGlobals mg) (hb : ∃ mb, h.Ns builtinsNs mb ∧ ∀ x : Str, x ≠ "__name__" → mb x = bootBuiltins x) (c : seerB K = true) : h.NoSeer := by
  unfold seerB at c
  simp only [Bool.and_eq_true] at c
  obtain ⟨⟨c1, c2, c3⟩, ⟨c4, c5⟩, c6⟩ := c
  obtain ⟨m1, g1⟩ := nsOkB_ok X c1
  obtain ⟨m2, g2⟩ := nsOkB_ok X c4
  refine ⟨⟨m1, g1, nsNoB_ok X g1 c2, nsNoB_ok X g1 c3⟩, ⟨m2, g2, nsNoB_ok X g2 c5⟩, hb, ?_⟩
  unfold mainB at c6
  split at c6
  · rename_i bm e
    split at c6
    · rename_i ob q
      rw [Bool.and_eq_true] at c6
      obtain ⟨a1, a2⟩ := c6
      refine ⟨mg, bm, ob, G, PySem.W.mg_of X G e, X _ _ q, ?_, of_decide_eq_true a2⟩
      split at a1
      · rename_i n hn
        rw [hn, beq_iff_eq.mp a1]
      · cases a1
    · cases c6
  · cases c6
/-- // of any size may be asked here -/
structure Dvd (X : Cx) : Prop where
  seer : seerB X.K = true
  tree : X.prog.given.tree = none
  room : Room 32 X.A
  stk : ∃ env l, X.stack = env :: l ∧ env.scope.isGenerator = false ∧ env.scope.isCoroutine = false ∧ env.builtins = builtinsNs ∧ env.globals = mainGlobals
theorem op_fdivN {X : Cx} (D : Dvd X) : OpR X (binaryOp .FloorDiv) (rI (fun i j => divOk i j = true) fun i j => .int (i.fdiv j)) := by
  intro pins s σ H x y v u Q I rx ry h
  obtain ⟨i, j, rfl, rfl, hc, q⟩ := h
  obtain ⟨t, rfl⟩ := rx
  obtain ⟨t', rfl⟩ := ry
  have hn : s.heap.NoSeer := by
    obtain ⟨mb, hb1, hb2⟩ := I.ok.mod.blt
    exact seerB_ok I.kIn (I.ok.mod.glob.keeps I.bk) ⟨mb, hb1.keeps I.bk, hb2⟩ D.seer
  obtain ⟨env, l, e1, e2, e3, e4, e5⟩ := D.stk
  have sa : SeerAt (model X.prog X.w) X.A s.heap := SeerAt.of (env := env) (l := l) hn D.tree (by rw [I.ok.frames, e1]) e2 e3 e4 e5
  refine PyProof.Rows.floordiv_int (of_decide_eq_true hc) ?_ (.inr (PylongRoom.of I.nolimit ?_ sa))
  · exact ⟨.int (i.fdiv j), H, I.tok _, ⟨_, rfl⟩, q⟩
  · have := D.room.dp
    have e : Builtin.pylongFrames = 100 := rfl
    omega
theorem pd_div {X : Cx} {T : Tab} {W : WX} {a b : Expr} {fa fb : FE} {pos : Pos} (D : Dvd X) (ha : PD X T W a fa) (hb : PD X T W b fb) : PD X T W (.BinOp a .FloorDiv b pos) (e2 gDiv fa fb) := pd_op (op_fdivN D) (o2_I fun _ _ h => h) ha hb
theorem dv_fn {P : Program} {w : World} {K : PySem.W.Frag} {mg : Str → Option Value} {base : Heap} {N ps : List Str} {qual : Str} {scope : Scope} {f : Addr} {cd : Value} {A : Around} {outer : List Env} {s : Shared} {H : Hp} {E : XK} {k : Nat}
    (ht : P.given.tree = none) (hs : seerB K = true) (S : FnScope N ps scope) (hr : Room k (A.deeper (envOfC qual scope s.heap.objs.size f cd))) (hk : 32 ≤ k) : Dvd (cxOf (L2.CX P w) P w K mg base N qual scope f cd A outer s H E) :=
  ⟨hs, ht, hr.mono hk, _, _, rfl, S.gen, S.co, rfl, rfl⟩
theorem Dvd.blk {X : Cx} (D : Dvd X) (s : Shared) (H : Hp) (scope : Scope) (env : Env) (fp : List Addr) : Dvd (X.blk s H scope env fp) := ⟨D.seer, D.tree, D.room, D.stk⟩
end Pd

set_option maxHeartbeats 2000000
/-! PdAE: enumerate and zip walked; static methods; ==, in of data; lcm, sum. -/
namespace Pd
open PySem PySem.Spec PyProof.Rows L2 RT RZ
/-! ### enumerate, zip -/
def enD (i : Nat) : List Dt → List Dt
  | [] => []
  | d :: ds => .tup [.int i, d] :: enD (i + 1) ds
theorem enD_length (i : Nat) (ds : List Dt) : (enD i ds).length = ds.length := by
  induction ds generalizing i with
  | nil => rfl
  | cons d ds ih => simp [enD, ih]
theorem enD_get {k : Nat} : ∀ {ds : List Dt} {i : Nat} {e : Dt}, (enD k ds)[i]? = some e → ∃ d, ds[i]? = some d ∧ e = .tup [.int (k + i : Nat), d]
  | [], _, _, h => by simp [enD] at h
  | d :: ds, 0, e, h => by simp [enD] at h; exact ⟨d, rfl, by rw [← h]; simp⟩
  | d :: ds, i + 1, e, h => by
    obtain ⟨d', h1, h2⟩ := enD_get (k := k + 1) (ds := ds) (i := i) (e := e) (by simpa [enD] using h)
    exact ⟨d', by simpa using h1, by rw [h2, show k + 1 + i = k + (i + 1) by omega]⟩
section
variable {K : PySem.W.Frag} {T : Tab} {Z1 H1 : Hp}
theorem itD_enL {a : Addr} {vs : List V} {ds : List Dt} (h : SqL K Z1 a vs) (r : Reps K T Z1 ds vs) : ItD K T (Ite K a) Z1 H1 (enD 0 ds) := by
  refine ⟨fun i e Z H l1 l2 he => ?_, fun i Z H l1 l2 hi => ⟨vs, l2.seqL (l1.seqL h), by rw [r.length]; rwa [enD_length] at hi⟩⟩
  obtain ⟨d, hd, rfl⟩ := enD_get he
  obtain ⟨w, g1, g2⟩ := r.get hd
  refine ⟨⟨vs, w, l2.seqL (l1.seqL h), g1⟩, fun x H' ⟨P, y, e1, e2, e3, e4⟩ => ?_⟩
  subst e1 e3
  have := e4 vs (l2.seqL (l1.seqL h))
  rw [g1] at this
  cases this
  refine ⟨upd Z P (.tup [.int (i : Nat), w]), Ext4.newZ l2 e2, ?_⟩
  simp only [Rep]
  refine ⟨P, _, rfl, .of upd_same, .cons (by simp only [Rep, Nat.zero_add]) (.cons (g2.mono (l1.trans (Le.upd (l2.free e2)))) .nil)⟩
theorem itD_enT {a : Addr} {vs : List V} {ds : List Dt} (h : SqT K Z1 a vs) (r : Reps K T Z1 ds vs) : ItD K T (IteT K a vs.length) Z1 H1 (enD 0 ds) := by
  refine ⟨fun i e Z H l1 l2 he => ?_, fun i Z H l1 l2 hi => ⟨by rw [r.length]; rwa [enD_length] at hi, vs, rfl, l2.seqT (l1.seqT h)⟩⟩
  obtain ⟨d, hd, rfl⟩ := enD_get he
  obtain ⟨w, g1, g2⟩ := r.get hd
  refine ⟨⟨(List.getElem?_eq_some_iff.mp g1).1, vs, w, rfl, l2.seqT (l1.seqT h), g1⟩, fun x H' ⟨P, y, e1, e2, e3, e4⟩ => ?_⟩
  subst e1 e3
  have := e4 vs (l2.seqT (l1.seqT h))
  rw [g1] at this
  cases this
  refine ⟨upd Z P (.tup [.int (i : Nat), w]), Ext4.newZ l2 e2, ?_⟩
  simp only [Rep]
  refine ⟨P, _, rfl, .of upd_same, .cons (by simp only [Rep, Nat.zero_add]) (.cons (g2.mono (l1.trans (Le.upd (l2.free e2)))) .nil)⟩
end
def zipD : List Dt → List Dt → List Dt
  | d :: ds, e :: es => .tup [d, e] :: zipD ds es
  | _, _ => []
theorem zipD_length : ∀ (ds es : List Dt), (zipD ds es).length = min ds.length es.length
  | [], _ => by simp [zipD]
  | _ :: _, [] => by simp [zipD]
  | d :: ds, e :: es => by simp [zipD, zipD_length ds es]
theorem zipD_get : ∀ {ds es : List Dt} {i : Nat} {p : Dt}, (zipD ds es)[i]? = some p → ∃ d e, ds[i]? = some d ∧ es[i]? = some e ∧ p = .tup [d, e]
  | [], _, _, _, h => by simp [zipD] at h
  | _ :: _, [], _, _, h => by simp [zipD] at h
  | d :: ds, e :: es, 0, p, h => by simp [zipD] at h; exact ⟨d, e, rfl, rfl, h.symm⟩
  | d :: ds, e :: es, i + 1, p, h => by
    obtain ⟨d', e', h1, h2, h3⟩ := zipD_get (ds := ds) (es := es) (i := i) (p := p) (by simpa [zipD] using h)
    exact ⟨d', e', by simpa using h1, by simpa using h2, h3⟩
section
variable {K : PySem.W.Frag} {T : Tab} {Z1 H1 : Hp}
theorem itD_zipL {a b : Addr} {vs ws : List V} {ds es : List Dt} (h : SqL K Z1 a vs) (r : Reps K T Z1 ds vs) (h' : SqL K Z1 b ws) (r' : Reps K T Z1 es ws) : ItD K T (Itz K a b) Z1 H1 (zipD ds es) := by
  refine ⟨fun i e Z H l1 l2 he => ?_, fun i Z H l1 l2 hi => ⟨vs, ws, l2.seqL (l1.seqL h), l2.seqL (l1.seqL h'), by rw [r.length, r'.length]; rw [zipD_length] at hi; omega⟩⟩
  obtain ⟨d, d2, hd, hd2, rfl⟩ := zipD_get he
  obtain ⟨w, g1, g2⟩ := r.get hd
  obtain ⟨w2, g3, g4⟩ := r'.get hd2
  refine ⟨⟨vs, ws, w, w2, l2.seqL (l1.seqL h), l2.seqL (l1.seqL h'), g1, g3⟩, fun x H' ⟨P, y, y2, e1, e2, e3, e4, e5⟩ => ?_⟩
  subst e1 e3
  have q1 := e4 vs (l2.seqL (l1.seqL h))
  have q2 := e5 ws (l2.seqL (l1.seqL h'))
  rw [g1] at q1; cases q1
  rw [g3] at q2; cases q2
  refine ⟨upd Z P (.tup [w, w2]), Ext4.newZ l2 e2, ?_⟩
  simp only [Rep]
  exact ⟨P, _, rfl, .of upd_same, .cons (g2.mono (l1.trans (Le.upd (l2.free e2)))) (.cons (g4.mono (l1.trans (Le.upd (l2.free e2)))) .nil)⟩
theorem itD_zipT {a b : Addr} {vs ws : List V} {ds es : List Dt} (h : SqT K Z1 a vs) (r : Reps K T Z1 ds vs) (h' : SqT K Z1 b ws) (r' : Reps K T Z1 es ws) : ItD K T (ItzT K a b) Z1 H1 (zipD ds es) := by
  refine ⟨fun i e Z H l1 l2 he => ?_, fun i Z H l1 l2 hi => ⟨vs, ws, l2.seqT (l1.seqT h), l2.seqT (l1.seqT h'), by rw [r.length, r'.length]; rw [zipD_length] at hi; omega⟩⟩
  obtain ⟨d, d2, hd, hd2, rfl⟩ := zipD_get he
  obtain ⟨w, g1, g2⟩ := r.get hd
  obtain ⟨w2, g3, g4⟩ := r'.get hd2
  refine ⟨⟨vs, ws, w, w2, l2.seqT (l1.seqT h), l2.seqT (l1.seqT h'), g1, g3⟩, fun x H' ⟨P, y, y2, e1, e2, e3, e4, e5⟩ => ?_⟩
  subst e1 e3
  have q1 := e4 vs (l2.seqT (l1.seqT h))
  have q2 := e5 ws (l2.seqT (l1.seqT h'))
  rw [g1] at q1; cases q1
  rw [g3] at q2; cases q2
  refine ⟨upd Z P (.tup [w, w2]), Ext4.newZ l2 e2, ?_⟩
  simp only [Rep]
  exact ⟨P, _, rfl, .of upd_same, .cons (g2.mono (l1.trans (Le.upd (l2.free e2)))) (.cons (g4.mono (l1.trans (Le.upd (l2.free e2)))) .nil)⟩
end
def iEnS (f : FE) : FIt := fun ρ => bnd (f ρ) fun r => bnd (frz r) fun d => match asSeq d with
  | some ds => some (.ok (enD 0 ds))
  | none => none
/-- both lists or both tuples -/
def zip2 : Dt → Dt → Option (List Dt)
  | .lst ds, .lst es => some (zipD ds es)
  | .tup ds, .tup es => some (zipD ds es)
  | _, _ => none
def iZipS (f g : FE) : FIt := fun ρ => bnd (f ρ) fun r => bnd (frz r) fun d => bnd (g ρ) fun r' => bnd (frz r') fun e => match zip2 d e with
  | some ds => some (.ok ds)
  | none => none
section
variable {X : Cx} {T : Tab} {W : WX} {e e2 : Expr} {f f2 : FE} {p pos tpos : Pos} {elts : List Expr} {kk : Nat}
theorem pdi_en (hm : X.mg "enumerate" = none) (he : PD X T W e f) (hg : Gl X "enumerate" := by rfl) (hs : starEach [e] X.env = [(false, eval e X.env)] := by rfl) : PDI X T W (.Tuple elts kk tpos) (.Call (.Name "enumerate" p) [e] [] pos) (iEnS f) := by
  refine PI.imp (pi_enumA hg hm (pa_cons he pa_nil hs) hs) fun σ H R ⟨H0, Z0, env, Z, out, h, s, p⟩ => ?_
  unfold iEnS at h
  rcases bnd_cases h with ⟨c, ds, q1, q2⟩ | ⟨r, q1, q2⟩
  · exact ⟨H0, Z0, env, Z, _, q1, s, fun r q => (nomatch q), fun c' ds' q cls d Z' H' e x => by cases q; exact p.ex _ _ q2 cls d Z' H' e x⟩
  · rcases bnd_cases q2 with ⟨c, ds, q3, q4⟩ | ⟨d, q3, q4⟩
    · cases r <;> cases q3
    · refine ⟨H0, Z0, env, Z, _, q1, s, fun r' q v Z' H' x rr => ?_, fun c' ds' q => (nomatch q)⟩
      cases q
      obtain ⟨Z2, x2, _, rd⟩ := rr.freeze q3 x
      cases d with
      | lst ds =>
        cases q4
        simp only [Rep] at rd
        obtain ⟨q, vs, rfl, g1, g2⟩ := rd
        exact ⟨q, vs, rfl, .inl ⟨x2.zh.seqL g1, p.ok _ rfl _ Z2 H' x2 (itD_enL g1 g2)⟩⟩
      | tup ds =>
        cases q4
        simp only [Rep] at rd
        obtain ⟨q, vs, rfl, g1, g2⟩ := rd
        exact ⟨q, vs, rfl, .inr ⟨x2.zh.seqT g1, p.ok _ rfl _ Z2 H' x2 (itD_enT g1 g2)⟩⟩
      | _ => cases q4
theorem pdi_zip (hm : X.mg "zip" = none) (he : PD X T W e f) (he2 : PD X T W e2 f2) (hg : Gl X "zip" := by rfl) (hs : starEach [e, e2] X.env = (false, eval e X.env) :: starEach [e2] X.env := by rfl) (hs2 : starEach [e2] X.env = (false, eval e2 X.env) :: starEach [] X.env := by rfl) (hpl : (backTo pos (starEach [e2] X.env)).any (·.1) = false := by rfl) : PDI X T W (.Tuple elts kk tpos) (.Call (.Name "zip" p) [e, e2] [] pos) (iZipS f f2) := by
  refine PI.imp (pi_zipA hg hm (pa_cons he (pa_cons he2 pa_nil hs2) hs) hs hpl) fun σ H R ⟨H0, Z0, env, Z, out, h, s, p⟩ => ?_
  unfold iZipS at h
  rcases bnd_cases h with ⟨c, ds, q1, q2⟩ | ⟨r, q1, q2⟩
  · exact ⟨H0, Z0, env, Z, _, q1, s, fun r q => (nomatch q), fun c' ds' q cls d Z' H' e x => by cases q; exact p.ex _ _ q2 cls d Z' H' e x⟩
  · rcases bnd_cases q2 with ⟨c, ds, q3, q4⟩ | ⟨d, q3, q4⟩
    · cases r <;> cases q3
    · refine ⟨H0, Z0, env, Z, _, q1, s, fun r' q v Z1 H1 x rr => ?_, fun c' ds' q => (nomatch q)⟩
      cases q
      obtain ⟨Z2, x2, _, rd⟩ := rr.freeze q3 x
      have s2 := s.step x2
      have p2 := p.step x2
      rcases bnd_cases q4 with ⟨c, ds, q5, q6⟩ | ⟨r2, q5, q6⟩
      · exact ⟨H0, Z0, env, Z2, _, q5, s2, fun r q => (nomatch q), fun c' ds' q cls d Z' H' e x => by cases q; exact p2.ex _ _ q6 cls d Z' H' e x⟩
      · rcases bnd_cases q6 with ⟨c, ds, q7, q8⟩ | ⟨d2, q7, q8⟩
        · cases r2 <;> cases q7
        · refine ⟨H0, Z0, env, Z2, _, q5, s2, fun r' q v2 Z3 H3 x3 rr2 => ?_, fun c' ds' q => (nomatch q)⟩
          cases q
          obtain ⟨Z4, x4, _, rd2⟩ := rr2.freeze q7 x3
          have rd' := rd.mono x4.zz
          cases d <;> cases d2 <;> first | (cases q8; done) | skip
          · cases q8
            simp only [Rep] at rd' rd2
            obtain ⟨a, vs, rfl, g1, g2⟩ := rd'
            obtain ⟨b, ws, rfl, g3, g4⟩ := rd2
            exact ⟨a, b, vs, ws, rfl, .inr ⟨x4.zh.seqT g1, x4.zh.seqT g3, p2.ok _ rfl _ Z4 H3 x4 (itD_zipT g1 g2 g3 g4)⟩⟩
          · cases q8
            simp only [Rep] at rd' rd2
            obtain ⟨a, vs, rfl, g1, g2⟩ := rd'
            obtain ⟨b, ws, rfl, g3, g4⟩ := rd2
            exact ⟨a, b, vs, ws, rfl, .inl ⟨x4.zh.seqL g1, x4.zh.seqL g3, p2.ok _ rfl _ Z4 H3 x4 (itD_zipL g1 g2 g3 g4)⟩⟩
end
/-! ### data compared -/
mutual
def pyD : Dt → Option PyData
  | .non => some .none
  | .bl b => some (.bool b)
  | .int i => some (.int i)
  | .str s => some (.str s)
  | .ty _ => none
  | .tup ds => (pyDs ds).map .tuple
  | .lst ds => (pyDs ds).map .list
  | .ins _ _ => none
def pyDs : List Dt → Option (List PyData)
  | [] => some []
  | d :: ds => match pyD d, pyDs ds with
    | some x, some xs => some (x :: xs)
    | _, _ => none
end
section
variable {K : PySem.W.Frag} {T : Tab} {Z H : Hp}
mutual
theorem pyD_ok (zh : Le Z H) : ∀ {d : Dt} {v : V} {x : PyData}, Rep K T Z d v → pyD d = some x → Dp K H v x
  | .non, _, _, h, e => by simp only [Rep] at h; subst h; cases e; exact .non
  | .bl b, _, _, h, e => by simp only [Rep] at h; subst h; cases e; exact .bl b
  | .int i, _, _, h, e => by simp only [Rep] at h; subst h; cases e; exact .int i
  | .str i, _, _, h, e => by simp only [Rep] at h; subst h; cases e; exact .str i
  | .ty _, _, _, h, e => by cases e
  | .ins _ _, _, _, h, e => by cases e
  | .tup ds, _, _, h, e => by
    simp only [Rep] at h
    obtain ⟨p, vs, rfl, h1, h2⟩ := h
    unfold pyD at e
    obtain ⟨xs, e1, rfl⟩ := Option.map_eq_some_iff.mp e
    exact .tup (zh.seqT h1) (pyDs_ok zh h2 e1)
  | .lst ds, _, _, h, e => by
    simp only [Rep] at h
    obtain ⟨p, vs, rfl, h1, h2⟩ := h
    unfold pyD at e
    obtain ⟨xs, e1, rfl⟩ := Option.map_eq_some_iff.mp e
    exact .lst (zh.seqL h1) (pyDs_ok zh h2 e1)
theorem pyDs_ok (zh : Le Z H) : ∀ {ds : List Dt} {vs : List V} {xs : List PyData}, Reps K T Z ds vs → pyDs ds = some xs → DpAll K H vs xs
  | [], _, _, h, e => by rw [h.nil_inv]; cases e; exact .nil
  | d :: ds, _, _, h, e => by
    obtain ⟨v, r, rfl, h1, h2⟩ := h.cons_inv
    unfold pyDs at e
    split at e
    · rename_i x xs e1 e2
      cases e
      exact .cons (pyD_ok zh h1 e1) (pyDs_ok zh h2 e2)
    · cases e
end
def pyR : Rs → Option PyData
  | .fro d => pyD d
  | .own ds => (pyDs ds).map .list
  | .bor ds => (pyDs ds).map .list
theorem pyR_ok {B : Hp} (zh : Le Z H) {r : Rs} {v : V} {x : PyData} (h : RRep K T B Z H v r) (e : pyR r = some x) : Dp K H v x := by
  cases r with
  | fro d => exact pyD_ok zh h e
  | own ds =>
    obtain ⟨xs, e1, rfl⟩ := Option.map_eq_some_iff.mp e
    obtain ⟨p, vs, rfl, _, h1, _, h2⟩ := h
    exact .lst (.of h1) (pyDs_ok zh h2 e1)
  | bor ds =>
    obtain ⟨xs, e1, rfl⟩ := Option.map_eq_some_iff.mp e
    obtain ⟨p, vs, rfl, h1, h2⟩ := h
    exact .lst (.of h1) (pyDs_ok zh h2 e1)
def eqDt (x y : Rs) : Option Bool := match pyR x, pyR y with
  | some a, some b => if SeqAt.shaped a = true ∧ SeqAt.shaped b = true then some (PyData.eqv a b) else none
  | _, _ => none
def gEqD : G2 := fun x y => match eqDt x y with
  | some b => vB b
  | none => none
def gNeD : G2 := fun x y => match eqDt x y with
  | some b => vB (!b)
  | none => none
theorem eqDt_inv {x y : Rs} {b : Bool} (h : eqDt x y = some b) : ∃ a c, pyR x = some a ∧ pyR y = some c ∧ SeqAt.shaped a = true ∧ SeqAt.shaped c = true ∧ b = PyData.eqv a c := by
  unfold eqDt at h
  split at h
  · rename_i a c h1 h2
    split at h
    · rename_i hs
      cases h
      exact ⟨a, c, h1, h2, hs.1, hs.2, rfl⟩
    · cases h
  · cases h
end
section
variable {K : PySem.W.Frag} {T : Tab} {W : WX}
theorem o2_eqD : Op2 K T W (rEqD K) gEqD := fun σ B Z H x y v w out Q zh r1 r2 hg p => by
  unfold gEqD at hg
  split at hg
  · rename_i b hb
    cases hg
    obtain ⟨a, c, h1, h2, h3, h4, rfl⟩ := eqDt_inv hb
    exact ⟨a, c, pyR_ok zh r1 h1, pyR_ok zh r2 h2, h3, h4, p.fro zh (by simp only [Rep])⟩
  · cases hg
theorem o2_neD : Op2 K T W (rNeD K) gNeD := fun σ B Z H x y v w out Q zh r1 r2 hg p => by
  unfold gNeD at hg
  split at hg
  · rename_i b hb
    cases hg
    obtain ⟨a, c, h1, h2, h3, h4, rfl⟩ := eqDt_inv hb
    exact ⟨a, c, pyR_ok zh r1 h1, pyR_ok zh r2 h2, h3, h4, p.fro zh (by simp only [Rep])⟩
  · cases hg
/-- x in [..] by data -/
def gInD : G2 := fun x y => match pyR x, pyR y with
  | some a, some (.list bs) => if SeqAt.shaped a = true ∧ SeqAt.shaped (.list bs) = true then vB (bs.any fun z => PyData.eqv z a) else none
  | _, _ => none
theorem o2_inD : Op2 K T W (rInD K) gInD := fun σ B Z H x y v w out Q zh r1 r2 hg p => by
  unfold gInD at hg
  split at hg
  · rename_i a bs h1 h2
    split at hg
    · rename_i hs
      cases hg
      exact ⟨a, bs, pyR_ok zh r1 h1, pyR_ok zh r2 h2, hs.1, hs.2, p.fro zh (by simp only [Rep])⟩
    · cases hg
  · cases hg
end
end Pd

set_option maxHeartbeats 2000000
/-! PdAF: static methods, keywords, lcm, sum, data compared in tests. -/
namespace Pd
open PySem PySem.Spec L2
/-! ### static methods -/
def stB (C m : Str) (K : PySem.W.Frag) : Bool := (PySem.W.readsIn K (He.ga K C) (.type "type") && He.eqO (PySem.W.specialIn K (.ref (He.ga K C)) "__getattribute__") (some (some (.builtin "type.__getattribute__")))) &&
  ((match PySem.W.findCls K (.ref (He.ga K C)) (.type "type") m with
    | some (.get (.builtin s) (.ref p) .none (.ref c)) => s == "staticmethod.__get__" && (decide (p = atM C m K) && decide (c = He.ga K C))
    | _ => false) && ((match PySem.W.recIn K (atM C m K) "staticmethod" with
    | some (.ref g :: _) => decide (g = behind "staticmethod" C m K)
    | _ => false) && (PySem.W.handedIn (.ref (behind "staticmethod" C m K)) && PySem.W.keepIn K (.ref (behind "staticmethod" C m K)))))
structure StK (K : PySem.W.Frag) (C : Addr) (m : Str) (p g : Addr) : Prop where
  rd : PySem.W.readsIn K C (.type "type") = true
  ga : PySem.W.specialIn K (.ref C) "__getattribute__" = some (some (.builtin "type.__getattribute__"))
  at_ : PySem.W.findCls K (.ref C) (.type "type") m = some (.get (.builtin "staticmethod.__get__") (.ref p) .none (.ref C))
  rc : ∃ rest, PySem.W.recIn K p "staticmethod" = some (.ref g :: rest)
  hd : PySem.W.handedIn (.ref g) = true
  kp : PySem.W.keepIn K (.ref g) = true
theorem stB_ok {C m : Str} {K : PySem.W.Frag} (c : stB C m K = true) : StK K (He.ga K C) m (atM C m K) (behind "staticmethod" C m K) := by
  unfold stB at c
  simp only [Bool.and_eq_true] at c
  obtain ⟨⟨c1, c2⟩, c3, c4, c5, c6⟩ := c
  refine ⟨c1, He.eqO_ok c2, ?_, ?_, c5, c6⟩
  · split at c3
    · rename_i s p c' e
      simp only [Bool.and_eq_true, beq_iff_eq, decide_eq_true_eq] at c3
      obtain ⟨rfl, rfl, rfl⟩ := c3
      exact e
    · cases c3
  · split at c4
    · rename_i g rest e
      rw [of_decide_eq_true c4] at e
      exact ⟨rest, e⟩
    · cases c4
structure StatG (P : Program) (w : World) (K : PySem.W.Frag) (mg : Str → Option Value) (base : Heap) (T : Tab) (k : Nat) (x m : Str) (n : Nat) (gD : List Dt → List Dt) (fn : Fn) : Prop where
  ex : ∃ C p g fd ps, mg x = some (.ref C) ∧ StK K C m p g ∧ Conv K T fd ps n [] (fun ds _ => gD ds) ∧ FnOk P w K mg base (L2.CX P w) k g fd ps (spD K T fn)
section
variable {X : Cx} {T : Tab} {W : WX} {k n : Nat} {fn : Fn} {x m : Str} {p xp apos pos : Pos} {e : Expr} {es : List Expr} {fa : FA}
theorem pd_stat {pl : Sem Bool} {gD : List Dt → List Dt} (D : StatG X.prog X.w X.K X.mg X.base T k x m n gD fn) (hr : Room k X.A) (tk : Takes X W) (ha : PDA X T W (e :: es) fa) (hg : Gl X x := by rfl)
    (hdb : (x == ("__debug__" : Str)) = false := by decide) (he : starEach (e :: es) X.env = (false, eval e X.env) :: starEach es X.env := by rfl) (hpl : (backTo pos (starEach es X.env)).any (·.1) = false := by rfl)
    (ht : eval (.Call (.Attribute (.Name x xp) m apos) (e :: es) [] pos) X.env = (do
      let ov ← eval (.Name x xp) X.env
      standAt apos.atName
      let (g, first) ← holding [ov] (getMethod ov m pl)
      callWith pos g first (backTo pos (starEach (e :: es) X.env)) (backToKw pos (keywordEach [] X.env))) := by rfl) :
    PD X T W (.Call (.Attribute (.Name x xp) m apos) (e :: es) [] pos) (eCa n (fun ds => fn (gD ds)) fa) := by
  obtain ⟨C, q, g, fd, ps, hm, S, hb, F⟩ := D.ex
  have hc : CallV X T W (.ref g) n [] fun ds _ => fn (gD ds) := callV_fn F hr hb tk
  refine ⟨fun pins s σ H Q I h => ?_⟩
  refine PySem.W.methodCall_KW (pl := pl) (ld_glob I hg hm ?_ hdb) ht
  obtain ⟨rest, hrc⟩ := S.rc
  refine PySem.W.method_cls I.kIn S.ga (PySem.W.cls_bind I.kIn S.rd S.at_ (wpAny_call (PySem.W.sm_get (s := { s with toks := s.toks + 1 }) I.kIn hrc (PySem.W.handed_on S.hd ?_))))
  have I1 : Inv X pins σ H { s with toks := s.toks + 1 } := I.tok _
  refine PySem.W.callWith_K (first := []) (h₀ := X.base) I1.ok.mod.kin S.kp (thn (ha.run pos pins _ σ H _ I1 (args_run hc I1 h)) fun us s1 ⟨vs, H1, I2, r, q⟩ => ⟨I2.kIn, ?_⟩) he hpl
  exact tNil_of q s1 us [] I2 r .nil
end
/-! ### keywords: f(e, .., k = v, ..), the keyword-only parameters in their order, no defaults -/
theorem Vals.app : ∀ {vs : List V} {us : List Value} {zs : List V} {ws : List Value}, Vals vs us → Vals zs ws → Vals (vs ++ zs) (us ++ ws)
  | _, _, _, _, .nil, h => h
  | _, _, _, _, .cons r t, h => .cons r (Vals.app t h)
section
variable {K : PySem.W.Frag} {T : Tab} {x qual : Str} {params : Arguments} {body : List Stmt} {scope : Scope} {kws : List (Str × V)} {f : Addr} {fd : FuncData} {ps ks : List Str} {n : Nat}
theorem kbn_kw (F : FunD K x qual params body scope [] kws f fd)
    (h : ∀ (kV doc pm : Value) (an : Option Addr) (cdv ct : Value) (us ws : List Value), us.length = n → ws.length = ks.length → bindArgs (PySem.W.fnOf x qual params body scope .none kV doc pm an cdv ct) ⟨us, ks.zip ws⟩ = pure (ps.zip (us ++ ws))) :
    KBn K fd ps n ks (fun us ws => us ++ ws) (fun vs zs => vs ++ zs) := by
  obtain ⟨oc, od, dV, kV, doc, pm, an, cdv, ct, osl, rfl, lk, hcd, hD, hK⟩ := F.ex
  rcases hD with ⟨_, rfl⟩ | ⟨e, _⟩
  · exact ⟨fun s us ws _ l1 l2 => .of_eq (h kV doc pm an cdv ct us ws l1 l2), fun r1 r2 => Vals.app r1 r2⟩
  · exact absurd rfl e
theorem conv_kw (F : FunD K x qual params body scope [] kws f fd)
    (h : ∀ (kV doc pm : Value) (an : Option Addr) (cdv ct : Value) (us ws : List Value), us.length = n → ws.length = ks.length → bindArgs (PySem.W.fnOf x qual params body scope .none kV doc pm an cdv ct) ⟨us, ks.zip ws⟩ = pure (ps.zip (us ++ ws))) :
    Conv K T fd ps n ks (fun ds es => ds ++ es) := ⟨_, _, kbn_kw F h, fun _ _ _ _ _ _ _ r r' => r.append r'⟩
theorem convI_kw (F : FunD K x qual params body scope [] kws f fd)
    (h : ∀ (kV doc pm : Value) (an : Option Addr) (cdv ct : Value) (us ws : List Value), us.length = n + 1 → ws.length = ks.length → bindArgs (PySem.W.fnOf x qual params body scope .none kV doc pm an cdv ct) ⟨us, ks.zip ws⟩ = pure (ps.zip (us ++ ws))) :
    ConvI K T fd ps n ks (fun ds es => ds ++ es) := ⟨_, _, kbn_kw F h, fun _ _ _ vs _ zs _ _ r r' => ⟨vs ++ zs, rfl, r.append r'⟩⟩
end
structure DefK (P : Program) (w : World) (K : PySem.W.Frag) (mg : Str → Option Value) (base : Heap) (T : Tab) (k : Nat) (x : Str) (n : Nat) (ks : List Str) (fn : Fn) : Prop where
  ex : ∃ f fd ps, mg x = some (.ref f) ∧ PySem.W.keepIn K (.ref f) = true ∧ Conv K T fd ps n ks (fun ds es => ds ++ es) ∧ FnOk P w K mg base (L2.CX P w) k f fd ps (spD K T fn)
structure ClsK (P : Program) (w : World) (K : PySem.W.Frag) (mg : Str → Option Value) (base : Heap) (T : Tab) (k : Nat) (x : Str) (c n : Nat) (ks : List Str) (fi : FI) : Prop where
  ex : ∃ f fd ps, mg x = some (.ref (T.ca c)) ∧ PySem.W.keepIn K (.ref (T.ca c)) = true ∧ Mk K (T.ca c) f ∧ ConvI K T fd ps n ks (fun ds es => ds ++ es) ∧ FnOk P w K mg base (L2.CX P w) k f fd ps (spI K T c fi)
section
variable {X : Cx} {T : Tab} {W : WX} {k n : Nat} {fn : Fn} {x : Str} {ks : List Str} {p pos : Pos} {e : Expr} {es : List Expr} {kws : List Keyword} {fa fk : FA}
theorem pd_callK (D : DefK X.prog X.w X.K X.mg X.base T k x n ks fn) (hr : Room k X.A) (tk : Takes X W) (ha : PDA X T W (e :: es) fa) (hkw : PDK X T W kws fk) (hg : Gl X x := by rfl)
    (hall : (backToKw pos (keywordEach kws X.env)).all (·.1.isSome) = true := by rfl) (hks : (backToKw pos (keywordEach kws X.env)).filterMap (·.1) = ks := by rfl)
    (hdb : (x == ("__debug__" : Str)) = false := by decide) (he : starEach (e :: es) X.env = (false, eval e X.env) :: starEach es X.env := by rfl)
    (hpl : ((backTo pos (starEach (e :: es) X.env)).any (·.1) || (backToKw pos (keywordEach kws X.env)).any (·.1.isNone)) = false := by rfl) :
    PD X T W (.Call (.Name x p) (e :: es) kws pos) (eCall n ks.length (fun ds es => fn (ds ++ es)) fa fk) := by
  obtain ⟨f, fd, ps, hm, hk, hb, F⟩ := D.ex
  exact pd_callVk (callV_fn F hr hb tk) hk hg hm ha hkw hall hks hdb he hpl
theorem pd_callCK {c : Nat} {fi : FI} (D : ClsK X.prog X.w X.K X.mg X.base T k x c n ks fi) (hr : Room (k + 1) X.A) (tk : Takes X W) (ha : PDA X T W (e :: es) fa) (hkw : PDK X T W kws fk) (hg : Gl X x := by rfl)
    (hall : (backToKw pos (keywordEach kws X.env)).all (·.1.isSome) = true := by rfl) (hks : (backToKw pos (keywordEach kws X.env)).filterMap (·.1) = ks := by rfl)
    (hdb : (x == ("__debug__" : Str)) = false := by decide) (he : starEach (e :: es) X.env = (false, eval e X.env) :: starEach es X.env := by rfl)
    (hpl : ((backTo pos (starEach (e :: es) X.env)).any (·.1) || (backToKw pos (keywordEach kws X.env)).any (·.1.isNone)) = false := by rfl) :
    PD X T W (.Call (.Name x p) (e :: es) kws pos) (eCall n ks.length (fun ds es => mkD c fi (ds ++ es)) fa fk) := by
  obtain ⟨f, fd, ps, hm, hk, M, hb, F⟩ := D.ex
  exact pd_callVk (callV_make M F hr hb tk) hk hg hm ha hkw hall hks hdb he hpl
end
/-! ### built-ins -/
def lcmOk (i j : Int) : Bool := decide (i.natAbs.log2 < 13000) && decide (j.natAbs.log2 < 13000)
def rLcm : List V → Hp → VK → Prop := fun vs H Q => ∃ a b : Int, vs = [.int a, .int b] ∧ lcmOk a b = true ∧ Q (.int ((Nat.lcm a.natAbs b.natAbs : Nat) : Int)) H
theorem log2_lcm {a b : Nat} (ha : a.log2 < 13000) (hb : b.log2 < 13000) : (a.lcm b).log2 < bitsLine := by
  have e : bitsLine = 134217728 := by decide
  rw [e]
  by_cases z : a.lcm b = 0
  · rw [z]; decide
  · refine (Nat.log2_lt z).mpr ?_
    have h1 : a < 2 ^ 13000 := by
      by_cases z : a = 0
      · subst z; exact Nat.two_pow_pos _
      · exact (Nat.log2_lt z).mp ha
    have h2 : b < 2 ^ 13000 := by
      by_cases z : b = 0
      · subst z; exact Nat.two_pow_pos _
      · exact (Nat.log2_lt z).mp hb
    refine Nat.lt_of_le_of_lt (PySem.W.mc_lcm_le a b) (Nat.lt_of_lt_of_le (Nat.mul_lt_mul'' h1 h2) ?_)
    rw [← Nat.pow_add]
    exact Nat.pow_le_pow_right (by decide) (by decide)
theorem cr_lcm {X : Cx} : CallR X (.builtin "math.lcm") rLcm := by
  intro pins s σ H vs us Q I r h
  obtain ⟨a, b, rfl, hc, q⟩ := h
  unfold lcmOk at hc
  rw [Bool.and_eq_true, decide_eq_true_eq, decide_eq_true_eq] at hc
  obtain ⟨t, u, rfl⟩ := Vals.int2 r
  have mx : ∀ {x y : Nat}, x.log2 < 13000 → y.log2 < 13000 → (max x y).log2 < 13000 := fun {x y} h1 h2 => by
    rcases Nat.le_total x y with h | h
    · rw [Nat.max_eq_right h]; exact h2
    · rw [Nat.max_eq_left h]; exact h1
  have m1 : (max 1 a.natAbs).log2 < 13000 := mx (by decide) hc.1
  have m2 := mx hc.1 hc.2
  refine call_function_meets PySem.W.MGF.kind_lcm PySem.W.MGF.plain_lcm PySem.W.MGF.entry_lcm (PySem.W.MGF.args_lcm _ _) (PySem.W.mg_run_lcm a t b u (by omega) (by omega) ?_).meets ?_
  · rw [PySem.W.mc_lcm_one]
    exact log2_lcm hc.1 hc.2
  · rw [PySem.W.mc_lcm_one]
    exact ⟨.int _, H, I.tok _, ⟨_, rfl⟩, q⟩
def gLcm : G2 := gII fun i j => if lcmOk i j then vI ((Nat.lcm i.natAbs j.natAbs : Nat) : Int) else none
theorem oc_lcm {K : PySem.W.Frag} {T : Tab} {W : WX} : OpC2 K T W rLcm gLcm := fun σ B Z H x y v w out Q zh r1 r2 hg p => by
  obtain ⟨i, j, rfl, rfl, e⟩ := gII_inv hg
  split at e
  · rename_i hc
    cases e
    simp only [RRep, Rep] at r1 r2
    subst r1 r2
    exact ⟨i, j, rfl, hc, p.fro zh (by simp only [Rep])⟩
  · cases e
def intsD : List Dt → Option (List Int)
  | [] => some []
  | .int i :: ds => (intsD ds).map (i :: ·)
  | _ => none
theorem intsD_map {ds : List Dt} {ns : List Int} (h : intsD ds = some ns) : ds = ns.map Dt.int := by
  induction ds generalizing ns with
  | nil => cases h; rfl
  | cons d ds ih =>
    cases d <;> simp only [intsD, reduceCtorEq] at h
    obtain ⟨ms, h1, rfl⟩ := Option.map_eq_some_iff.mp h
    rw [ih h1]; rfl
theorem Reps.intsI {K : PySem.W.Frag} {T : Tab} {Z : Hp} : ∀ {ns : List Int} {vs : List V}, Reps K T Z (ns.map Dt.int) vs → vs = ns.map V.int
  | [], _, h => h.nil_inv
  | n :: ns, _, h => by
    obtain ⟨v, r, rfl, h1, h2⟩ := h.cons_inv
    simp only [Rep] at h1
    rw [h1, h2.intsI]; rfl
def gSum : G1 := fun x => match asL x with
  | some ds => match intsD ds with
    | some ns => vI ns.sum
    | none => none
  | none => none
theorem oc_sum {K : PySem.W.Frag} {T : Tab} {W : WX} : OpC1 K T W (rSum K) gSum := fun σ B Z H x v out Q zh r1 hg p => by
  unfold gSum at hg
  split at hg
  · rename_i ds hds
    split at hg
    · rename_i ns hns
      cases hg
      obtain ⟨a, vs, rfl, h1, h2⟩ := r1.list zh hds
      rw [intsD_map hns] at h2
      rw [h2.intsI] at h1
      exact ⟨a, ns, rfl, h1, p.fro zh (by simp only [Rep])⟩
    · cases hg
  · cases hg
section
variable {X : Cx} {T : Tab} {W : WX} {p pos : Pos} {a b : Expr} {fa fb : FE}
theorem pd_lcm (hm : X.mg "lcm" = some (.builtin "math.lcm")) (ha : PD X T W a fa) (hb : PD X T W b fb) (hg : Gl X "lcm" := by rfl) (hs : starEach (a :: [b]) X.env = (false, eval a X.env) :: starEach [b] X.env := by rfl) (hs2 : starEach (b :: []) X.env = (false, eval b X.env) :: starEach [] X.env := by rfl)
    (hpl : (backTo pos (starEach [b] X.env)).any (·.1) = false := by rfl) : PD X T W (.Call (.Name "lcm" p) [a, b] [] pos) (e2 gLcm fa fb) := pd_bf2 cr_lcm oc_lcm hg hm ha hb (hs := hs) (hs2 := hs2) (hpl := hpl)
theorem pd_sum (hc : X.calm = true) (hm : X.mg "sum" = none) (ha : PD X T W a fa) (hg : Gl X "sum" := by rfl) (hs : starEach (a :: []) X.env = (false, eval a X.env) :: starEach [] X.env := by rfl) (hpl : (backTo pos (starEach [] X.env)).any (·.1) = false := by rfl) : PD X T W (.Call (.Name "sum" p) [a] [] pos) (e1 gSum fa) :=
  pd_bi1 (cr_sum hc) oc_sum hg hm (by decide +kernel) ha (hs := hs) (hpl := hpl)
theorem pd_isN (ha : PD X T W a fa) (hb : PD X T W b fb) : PD X T W (.Compare a [.Is] [b] pos) (e2 gIsN fa fb) := pd_cmp op_isN o2_isN ha hb (nomark _)
theorem pd_notN (ha : PD X T W a fa) (hb : PD X T W b fb) : PD X T W (.Compare a [.IsNot] [b] pos) (e2 gNotN fa fb) := pd_cmp op_notN o2_notN ha hb (nomark _)
theorem units64 {k : Nat} {A : Around} (hr : Room k A) : A.units + 64 < cLine := by have := hr.un; omega
theorem units65 {k : Nat} {A : Around} (hr : Room k A) : A.units + 65 < cLine := by have := hr.un; omega
theorem pd_eqD {k : Nat} (hr : Room k X.A) (ha : PD X T W a fa) (hb : PD X T W b fb) : PD X T W (.Compare a [.Eq] [b] pos) (e2 gEqD fa fb) := pd_cmp (op_eqD (units64 hr)) o2_eqD ha hb (nomark _)
theorem pd_neD {k : Nat} (hr : Room k X.A) (ha : PD X T W a fa) (hb : PD X T W b fb) : PD X T W (.Compare a [.NotEq] [b] pos) (e2 gNeD fa fb) := pd_cmp (op_neD (units64 hr)) o2_neD ha hb (nomark _)
theorem pdt_eqD {k : Nat} (hr : Room k X.A) (ha : PD X T W a fa) (hb : PD X T W b fb) : PDT X T W (.Compare a [.Eq] [b] pos) (tB (e2 gEqD fa fb)) := pdt_cmp (op_eqD (units64 hr)) o2_eqD ha hb (nomark _)
theorem pdt_neD {k : Nat} (hr : Room k X.A) (ha : PD X T W a fa) (hb : PD X T W b fb) : PDT X T W (.Compare a [.NotEq] [b] pos) (tB (e2 gNeD fa fb)) := pdt_cmp (op_neD (units64 hr)) o2_neD ha hb (nomark _)
theorem pd_inD {k : Nat} (hr : Room k X.A) (ha : PD X T W a fa) (hb : PD X T W b fb) (hm : behindInMarks .In b = false := by rfl) : PD X T W (.Compare a [.In] [b] pos) (e2 gInD fa fb) := pd_cmp (op_inD (units65 hr)) o2_inD ha hb hm
theorem pdt_inD {k : Nat} (hr : Room k X.A) (ha : PD X T W a fa) (hb : PD X T W b fb) (hm : behindInMarks .In b = false := by rfl) : PDT X T W (.Compare a [.In] [b] pos) (tB (e2 gInD fa fb)) := pdt_cmp (op_inD (units65 hr)) o2_inD ha hb hm
end
end Pd

set_option maxHeartbeats 2000000
/-! PdAG: try .. except X: without a name. -/
namespace Pd
open PySem PySem.Spec L2
/-- F; behind an error of a class that hit catches, G -/
def sTryU (hit : Nat → Option Bool) (F G : FS) : FS := fun ρ => match F ρ with
  | some (.xc c ds ρ') => (match hit c with
    | some true => G ρ'
    | some false => some (.xc c ds ρ')
    | none => none)
  | o => o
section
variable {X : Cx} {T : Tab} {W : WX} {x : Str} {np pos pos' : Pos} {body suite : List Stmt} {b₀ : Stmt} {F G : FS} {u : Addr}
theorem pds_tryU (hit : Nat → Option Bool) (hs : X.stack = X.env :: X.outer) (hf : X.env.frame = some X.env.locals) (hc : Names X x (.ref u)) (tk : Takes X W)
    (hb : ∀ (W' : WX) (pn : List (Addr × Obj)) (xe : Value → Shared → Prop), Takes (X.tr pn xe) W' → PassesOwn (model X.prog X.w) X.A X.env xe → PDSs (X.tr pn xe) T W' body F)
    (hh : ∀ c b, hit c = some b → PySem.W.exmOne X.K (.ref (T.ca c)) (.ref u) = some b)
    (hG : ∀ (a : Addr) (oe : Obj) (pn : List (Addr × Obj)), PDSs (X.suite a ((a, oe) :: pn)) T W (b₀ :: suite) G) :
    PDS X T W (.Try body [.ExceptHandler (some (.Name x np)) none (b₀ :: suite) pos'] [] [] pos) (sTryU hit F G) := by
  refine PS.imp (ps_try_only (tb := fun W' => tDS X.K T W' F) (ts := fun _ _ _ => tDS X.K T W G) hs hf hc tk (fun W' pn xe t po => hb W' pn xe t po) fun a oe cls d pn hz hd => hG a oe pn) fun D σ H ⟨H0, Z0, env, Z, out, h, s, po⟩ => ?_
  unfold sTryU at h
  cases hF : F env with
  | none => rw [hF] at h; cases h
  | some o =>
    rw [hF] at h
    cases o with
    | nx ρ' => cases h; exact ⟨H0, Z0, env, Z, _, hF, s, po.nx, fun r q => (nomatch q), fun r q => (nomatch q), fun r q => (nomatch q), fun c ds r q => (nomatch q)⟩
    | rt r => cases h; exact ⟨H0, Z0, env, Z, _, hF, s, fun r q => (nomatch q), po.rt, fun r q => (nomatch q), fun r q => (nomatch q), fun c ds r q => (nomatch q)⟩
    | bk ρ' => cases h; exact ⟨H0, Z0, env, Z, _, hF, s, fun r q => (nomatch q), fun r q => (nomatch q), po.bk, fun r q => (nomatch q), fun c ds r q => (nomatch q)⟩
    | ct ρ' => cases h; exact ⟨H0, Z0, env, Z, _, hF, s, fun r q => (nomatch q), fun r q => (nomatch q), fun r q => (nomatch q), po.ct, fun c ds r q => (nomatch q)⟩
    | xc c ds ρ' =>
      refine ⟨H0, Z0, env, Z, _, hF, s, fun r q => (nomatch q), fun r q => (nomatch q), fun r q => (nomatch q), fun r q => (nomatch q), fun c' ds' env' q cls d σ' Z' H' s' xr => ?_⟩
      cases q
      dsimp only at h
      obtain ⟨rfl, hx⟩ := xr
      split at h
      · rename_i ht
        exact ⟨true, hh _ _ ht, fun _ a na => ⟨H0, Z0, _, Z', out, h, s', po⟩, fun z => (nomatch z)⟩
      · rename_i ht
        cases h
        exact ⟨false, hh _ _ ht, fun z => (nomatch z), fun _ => po.xc _ _ _ rfl _ _ σ' Z' H' s' ⟨rfl, hx⟩⟩
      · cases h
end
end Pd

set_option maxHeartbeats 2000000
/-! PdAH: min, max of a list or a tuple of whole numbers. -/
namespace Pd
open PySem PySem.Spec PyProof.Rows L2 PySem.W
theorem ints_reads {h : Heap} : ∀ {ns : List Int} {its : List Value}, IntsAre its ns → ReadsAll h its (ns.map PyData.int) (ns.map fun _ => ([] : List Addr)).flatten
  | _, _, .nil => .nil
  | _, _, .cons _ t r => .cons (.int _ t) (ints_reads r)
theorem ints_depth : ∀ ns : List Int, PyData.depthAll (ns.map PyData.int) = 0
  | [] => rfl
  | n :: ns => by
    have := ints_depth ns
    simp only [List.map_cons, PyData.depthAll, PyData.depth]
    omega
theorem ints_alike (ns : List Int) : AlikeAll (ns.map PyData.int) := ⟨fun x hx y hy => by
  obtain ⟨a, _, rfl⟩ := List.mem_map.mp hx
  obtain ⟨b, _, rfl⟩ := List.mem_map.mp hy
  rfl, fun x hx => by
  obtain ⟨a, _, rfl⟩ := List.mem_map.mp hx
  exact fun z => nomatch z⟩
theorem reads_int_inv {h : Heap} {v : Value} {n : Int} {as : List Addr} (r : Reads h v (.int n) as) : ∃ t, v = .int n t := by
  cases r with
  | int i t => exact ⟨t, rfl⟩
def rMinS (K : PySem.W.Frag) : List V → Hp → VK → Prop := fun vs H Q => ∃ (a : Addr) (n : Int) (ns : List Int), vs = [V.ref a] ∧ (SqL K H a ((n :: ns).map V.int) ∨ SqT K H a ((n :: ns).map V.int)) ∧ Q (.int (ns.foldl min n)) H
def rMaxS (K : PySem.W.Frag) : List V → Hp → VK → Prop := fun vs H Q => ∃ (a : Addr) (n : Int) (ns : List Int), vs = [V.ref a] ∧ (SqL K H a ((n :: ns).map V.int) ∨ SqT K H a ((n :: ns).map V.int)) ∧ Q (.int (ns.foldl max n)) H
section
variable {X : Cx} {k : Nat}
theorem cr_minS (hc : X.calm = true) (hr : Room k X.A) : CallR X (.builtin "min") (rMinS X.K) := by
  intro pins s σ H vs us Q I r h
  have hu : X.A.units + 1 + 0 < cLine := by have := units64 hr; omega
  obtain ⟨a, n, ns, rfl, hs | hs, q⟩ := h
  · obtain ⟨its, rv, hl, _⟩ := I.list hs
    rw [Vals.ref1 r]
    refine min_list_data (x := .int n) (xs := ns.map PyData.int) (I.ok.hd hc) hl.isList (ints_reads rv.ints) (ints_alike (n :: ns)) (by rw [show PyData.depthAll (.int n :: ns.map PyData.int) = 0 from ints_depth (n :: ns)]; exact hu) (fun i v h' tk bs hv hread hk => ?_)
    rw [minD_ints] at hread
    obtain ⟨t, rfl⟩ := reads_int_inv hread
    exact ⟨.int _, H, I.kept hk, ⟨_, rfl⟩, q⟩
  · obtain ⟨its, rv, hl, _⟩ := I.tuple hs
    rw [Vals.ref1 r]
    refine min_tuple_data (x := .int n) (xs := ns.map PyData.int) (I.ok.hd hc) hl (ints_reads rv.ints) (ints_alike (n :: ns)) (by rw [show PyData.depthAll (.int n :: ns.map PyData.int) = 0 from ints_depth (n :: ns)]; exact hu) (fun i v h' tk bs hv hread hk => ?_)
    rw [minD_ints] at hread
    obtain ⟨t, rfl⟩ := reads_int_inv hread
    exact ⟨.int _, H, I.kept hk, ⟨_, rfl⟩, q⟩
theorem cr_maxS (hc : X.calm = true) (hr : Room k X.A) : CallR X (.builtin "max") (rMaxS X.K) := by
  intro pins s σ H vs us Q I r h
  have hu : X.A.units + 1 + 0 < cLine := by have := units64 hr; omega
  obtain ⟨a, n, ns, rfl, hs | hs, q⟩ := h
  · obtain ⟨its, rv, hl, _⟩ := I.list hs
    rw [Vals.ref1 r]
    refine max_list_data (x := .int n) (xs := ns.map PyData.int) (I.ok.hd hc) hl.isList (ints_reads rv.ints) (ints_alike (n :: ns)) (by rw [show PyData.depthAll (.int n :: ns.map PyData.int) = 0 from ints_depth (n :: ns)]; exact hu) (fun i v h' tk bs hv hread hk => ?_)
    rw [maxD_ints] at hread
    obtain ⟨t, rfl⟩ := reads_int_inv hread
    exact ⟨.int _, H, I.kept hk, ⟨_, rfl⟩, q⟩
  · obtain ⟨its, rv, hl, _⟩ := I.tuple hs
    rw [Vals.ref1 r]
    refine max_tuple_data (x := .int n) (xs := ns.map PyData.int) (I.ok.hd hc) hl (ints_reads rv.ints) (ints_alike (n :: ns)) (by rw [show PyData.depthAll (.int n :: ns.map PyData.int) = 0 from ints_depth (n :: ns)]; exact hu) (fun i v h' tk bs hv hread hk => ?_)
    rw [maxD_ints] at hread
    obtain ⟨t, rfl⟩ := reads_int_inv hread
    exact ⟨.int _, H, I.kept hk, ⟨_, rfl⟩, q⟩
end
def seqD : Rs → Option (List Dt)
  | .fro (.tup ds) => some ds
  | r => asL r
def gMinL : G1 := fun x => match seqD x with
  | some ds => match intsD ds with
    | some (n :: ns) => vI (ns.foldl min n)
    | _ => none
  | none => none
def gMaxL : G1 := fun x => match seqD x with
  | some ds => match intsD ds with
    | some (n :: ns) => vI (ns.foldl max n)
    | _ => none
  | none => none
theorem seqD_rep {K : PySem.W.Frag} {T : Tab} {B Z H : Hp} {v : V} {r : Rs} {ds : List Dt} {ns : List Int} (h : RRep K T B Z H v r) (zh : Le Z H) (e : seqD r = some ds) (hn : intsD ds = some ns) : ∃ a, v = .ref a ∧ (SqL K H a (ns.map V.int) ∨ SqT K H a (ns.map V.int)) := by
  unfold seqD at e
  split at e
  · cases e
    simp only [RRep, Rep] at h
    obtain ⟨q, vs, rfl, h1, h2⟩ := h
    rw [intsD_map hn] at h2
    rw [h2.intsI] at h1
    exact ⟨q, rfl, .inr (zh.seqT h1)⟩
  · obtain ⟨q, vs, rfl, h1, h2⟩ := h.list zh e
    rw [intsD_map hn] at h2
    rw [h2.intsI] at h1
    exact ⟨q, rfl, .inl h1⟩
theorem oc_minS {K : PySem.W.Frag} {T : Tab} {W : WX} : OpC1 K T W (rMinS K) gMinL := fun σ B Z H x v out Q zh r1 hg p => by
  unfold gMinL at hg
  split at hg
  · rename_i ds hds
    split at hg
    · rename_i n ns hns
      cases hg
      obtain ⟨a, rfl, h1⟩ := seqD_rep r1 zh hds hns
      exact ⟨a, n, ns, rfl, h1, p.fro zh (by simp only [Rep])⟩
    · cases hg
  · cases hg
theorem oc_maxS {K : PySem.W.Frag} {T : Tab} {W : WX} : OpC1 K T W (rMaxS K) gMaxL := fun σ B Z H x v out Q zh r1 hg p => by
  unfold gMaxL at hg
  split at hg
  · rename_i ds hds
    split at hg
    · rename_i n ns hns
      cases hg
      obtain ⟨a, rfl, h1⟩ := seqD_rep r1 zh hds hns
      exact ⟨a, n, ns, rfl, h1, p.fro zh (by simp only [Rep])⟩
    · cases hg
  · cases hg
section
variable {X : Cx} {T : Tab} {W : WX} {p pos : Pos} {a b : Expr} {fa fb : FE} {k : Nat}
theorem pd_minS (hc : X.calm = true) (hr : Room k X.A) (hm : X.mg "min" = none) (ha : PD X T W a fa) (hg : Gl X "min" := by rfl) (hs : starEach (a :: []) X.env = (false, eval a X.env) :: starEach [] X.env := by rfl) (hpl : (backTo pos (starEach [] X.env)).any (·.1) = false := by rfl) : PD X T W (.Call (.Name "min" p) [a] [] pos) (e1 gMinL fa) :=
  pd_bi1 (cr_minS hc hr) oc_minS hg hm (by decide +kernel) ha (hs := hs) (hpl := hpl)
theorem pd_maxS (hc : X.calm = true) (hr : Room k X.A) (hm : X.mg "max" = none) (ha : PD X T W a fa) (hg : Gl X "max" := by rfl) (hs : starEach (a :: []) X.env = (false, eval a X.env) :: starEach [] X.env := by rfl) (hpl : (backTo pos (starEach [] X.env)).any (·.1) = false := by rfl) : PD X T W (.Call (.Name "max" p) [a] [] pos) (e1 gMaxL fa) :=
  pd_bi1 (cr_maxS hc hr) oc_maxS hg hm (by decide +kernel) ha (hs := hs) (hpl := hpl)
end
end Pd

set_option maxHeartbeats 2000000
/-! PdAI: x = l.pop(), (x, y) = l.pop(). -/
namespace Pd
open PySem PySem.Spec L2
def sPopTo (gg : GT) (i : Nat) : FS := fun ρ => match ρ[i]? with
  | some (some (.own ds)) => match ds.getLast? with
    | some d => match gg d (ρ.set i (some (.own ds.dropLast))) with
      | some ρ' => some (.nx ρ')
      | none => none
    | none => none
  | _ => none
section
variable {X : Cx} {T : Tab} {W : WX} {i j k : Nat} {x y : Str} {xp yp apos cpos pos tpos : Pos} {es : List Expr}
theorem popTo_inv {K : PySem.W.Frag} {gg : GT} {env : PEnv} {out : Out} {σ : St} {Z H H0 : Hp} {Z0 : Hx} (h : sPopTo gg i env = some out) (s : SI K T H0 Z0 env σ Z H) : ∃ q vs ds d ρ', σ[i]? = some (some (.ref q)) ∧ H q = some (.lst vs) ∧ env[i]? = some (some (.own ds)) ∧ ∃ hl : 0 < vs.length, Rep K T Z d (vs[vs.length - 1]'(by omega)) ∧ gg d (env.set i (some (.own ds.dropLast))) = some ρ' ∧ out = .nx ρ' ∧ Reps K T Z ds.dropLast vs.dropLast := by
  unfold sPopTo at h
  split at h
  · rename_i ds hk
    obtain ⟨q, vs, g1, g2, g3⟩ := var_own s hk
    split at h
    · rename_i d hd
      split at h
      · rename_i ρ' hρ
        cases h
        have hne : ds ≠ [] := fun z => by rw [z] at hd; cases hd
        have hl : 0 < vs.length := by rw [g3.length]; exact List.length_pos_iff.mpr hne
        rw [List.getLast?_eq_getElem?] at hd
        obtain ⟨v, w1, w2⟩ := g3.get hd
        rw [← g3.length, List.getElem?_eq_getElem (by omega)] at w1
        have w1 := Option.some.inj w1
        subst w1
        exact ⟨q, vs, ds, d, ρ', g1, g2, hk, hl, w2, hρ, rfl, g3.dropLast⟩
      · cases h
    · cases h
  · cases h
theorem pds_popT (is : List Nat) (hc : X.calm = true) (hg : PGs X es (gNames is)) (hN : X.N[i]? = some x := by rfl) (hv : Vis X.env.scope x := by first | exact Or.inl rfl | exact Or.inr (Or.inl rfl) | exact Or.inr (Or.inr rfl)) (hd : (x == ("__debug__" : Str)) = false := by decide) (hcd : (x == ("__classdict__" : Str)) = false := by decide)
    (hbase : attributeBase (.Name x xp) "pop" X.env (eval (.Name x xp) X.env) = eval (.Name x xp) X.env := by rfl) (hline : (apos.endLine == cpos.line) = true := by rfl)
    (hn : (assignEach es X.env).length = is.length := by rfl) (hst : (assignEach es X.env).findIdx? (·.1) = none := by rfl)
    (hs : swapsWithSole [.Tuple es k tpos] (.Call (.Attribute (.Name x xp) "pop" apos) [] [] cpos) pos.line X.env = pure false := by rfl) (hw : swappedStores [.Tuple es k tpos] (.Call (.Attribute (.Name x xp) "pop" apos) [] [] cpos) X.env = pure none := by rfl)
    (h1 : (assignEach [.Tuple es k tpos] X.env).map (·.2) = [assign (.Tuple es k tpos) X.env] := by rfl) :
    PDS X T W (.Assign [.Tuple es k tpos] (.Call (.Attribute (.Name x xp) "pop" apos) [] [] cpos) pos) (sPopTo (gtTup is) i) := by
  refine PS.imp (ps_asg (pe_bm0 PySem.F.plainAttrs_list PySem.F.slot_list_pop PySem.F.type_list_pop mt_pop (pe_var hN hv hd hcd) hbase hline) (pg_tup hc hg hn hst) hs hw h1) fun D σ H ⟨H0, Z0, env, Z, out, h, s, p⟩ => ?_
  obtain ⟨q, vs, ds, d, ρ', g1, g2, hk, hl, w2, hρ, rfl, g4⟩ := popTo_inv h s
  refine ⟨_, g1, .inl ⟨rfl, vs, .of g2⟩, q, vs, vs[vs.length - 1]'(by omega), rfl, rfl, g2, by simp, ?_⟩
  exact tg_tup (vs := is) rfl (fun _ h => h) H0 Z0 _ ρ' σ Z _ d _ D.nx hρ w2 (s.change hk g1 g4) fun σ' s' _ => p.nx _ rfl σ' Z _ s'
theorem pds_popN (hNd : X.N.Nodup) (hi : X.N[j]? = some y := by rfl) (hx : Loc X.env.scope y := by first | exact Or.inl rfl | exact Or.inr rfl) (hN : X.N[i]? = some x := by rfl) (hv : Vis X.env.scope x := by first | exact Or.inl rfl | exact Or.inr (Or.inl rfl) | exact Or.inr (Or.inr rfl)) (hd : (x == ("__debug__" : Str)) = false := by decide) (hcd : (x == ("__classdict__" : Str)) = false := by decide)
    (hbase : attributeBase (.Name x xp) "pop" X.env (eval (.Name x xp) X.env) = eval (.Name x xp) X.env := by rfl) (hline : (apos.endLine == cpos.line) = true := by rfl)
    (hs : swapsWith (.Call (.Attribute (.Name x xp) "pop" apos) [] [] cpos) (some (.Name y yp)) pos.line X.env = pure false := by rfl) (hf : X.fn y = true ∨ X.env.scope.names.lookup y = some .local := by first | exact .inl rfl | exact .inr rfl) :
    PDS X T W (.Assign [.Name y yp] (.Call (.Attribute (.Name x xp) "pop" apos) [] [] cpos) pos) (sPopTo (gtName j) i) := by
  refine PS.imp (ps_set hNd hi hx (pe_bm0 PySem.F.plainAttrs_list PySem.F.slot_list_pop PySem.F.type_list_pop mt_pop (pe_var hN hv hd hcd) hbase hline) hs hf) fun D σ H ⟨H0, Z0, env, Z, out, h, s, p⟩ => ?_
  obtain ⟨q, vs, ds, d, ρ', g1, g2, hk, hl, w2, hρ, rfl, g4⟩ := popTo_inv h s
  refine ⟨_, g1, .inl ⟨rfl, vs, .of g2⟩, q, vs, vs[vs.length - 1]'(by omega), rfl, rfl, g2, by simp, ?_⟩
  cases hρ
  exact p.nx _ rfl _ Z _ ((s.change hk g1 g4).setFro w2)
end
end Pd

set_option maxHeartbeats 2000000
/-! PdAJ: a list of one's own is lent to an expression whose value holds no list. -/
namespace Pd
open PySem PySem.Spec L2
mutual
def noL : Dt → Bool
  | .lst _ => false
  | .tup ds => noLs ds
  | .ins _ ds => noLs ds
  | _ => true
def noLs : List Dt → Bool
  | [] => true
  | d :: ds => noL d && noLs ds
end
def noR : Rs → Bool
  | .fro d => noL d
  | .own ds => noLs ds
  | .bor _ => false
def cutZ (Z : Hp) (q : Addr) : Hp := fun a => if a = q then none else Z a
theorem cutZ_ne {Z : Hp} {q a : Addr} (h : a ≠ q) : cutZ Z q a = Z a := if_neg h
theorem cutZ_same {Z : Hp} {q : Addr} : cutZ Z q q = none := if_pos rfl
section
variable {K : PySem.W.Frag} {T : Tab}
theorem cut_sqT {Z : Hp} {q p : Addr} {vs ws : List V} (hq : Z q = some (.lst vs)) (h : SqT K Z p ws) : SqT K (cutZ Z q) p ws := by
  rcases h with (h | ⟨o, h⟩) | h
  · have ne : p ≠ q := fun e => by rw [e, hq] at h; cases h
    exact .inl (.inl (by rw [cutZ_ne ne]; exact h))
  · have ne : p ≠ q := fun e => by rw [e, hq] at h; cases h
    exact .inl (.inr ⟨o, by rw [cutZ_ne ne]; exact h⟩)
  · exact .inr h
mutual
theorem cut_rep {Z : Hp} {q : Addr} {vs : List V} (hq : Z q = some (.lst vs)) : ∀ (d : Dt) (v : V), noL d = true → Rep K T Z d v → Rep K T (cutZ Z q) d v
  | .non, v, _, h => by simp only [Rep] at h ⊢; exact h
  | .bl _, v, _, h => by simp only [Rep] at h ⊢; exact h
  | .int _, v, _, h => by simp only [Rep] at h ⊢; exact h
  | .str _, v, _, h => by simp only [Rep] at h ⊢; exact h
  | .ty _, v, _, h => by simp only [Rep] at h ⊢; exact h
  | .lst _, v, n, _ => by simp [noL] at n
  | .tup ds, v, n, h => by
    simp only [Rep] at h ⊢
    obtain ⟨p, ws, rfl, h1, h2⟩ := h
    exact ⟨p, ws, rfl, cut_sqT hq h1, cut_reps hq ds ws (by simpa [noL] using n) h2⟩
  | .ins c ds, v, n, h => by
    simp only [Rep] at h ⊢
    obtain ⟨p, dx, ws, rfl, h1, h2, h3⟩ := h
    have ne : p ≠ q := fun e => by rw [e, hq] at h1; cases h1
    exact ⟨p, dx, ws, rfl, by rw [cutZ_ne ne]; exact h1, h2, cut_reps hq ds ws (by simpa [noL] using n) h3⟩
theorem cut_reps {Z : Hp} {q : Addr} {vs : List V} (hq : Z q = some (.lst vs)) : ∀ (ds : List Dt) (ws : List V), noLs ds = true → Reps K T Z ds ws → Reps K T (cutZ Z q) ds ws
  | [], ws, _, h => by simp only [Reps] at h ⊢; exact h
  | d :: ds, ws, n, h => by
    simp only [Reps] at h ⊢
    simp only [noLs, Bool.and_eq_true] at n
    obtain ⟨v, r, rfl, h1, h2⟩ := h
    exact ⟨v, r, rfl, cut_rep hq d v n.1 h1, cut_reps hq ds r n.2 h2⟩
end
theorem cut_ext {Z H Z' H' : Hp} {q : Addr} {vs : List V} (zq : Z q = none) (hq : H q = some (.lst vs)) (e : Ext4 (upd Z q (.lst vs)) H Z' H') : Ext4 Z H (cutZ Z' q) H' ∧ Z' q = some (.lst vs) := by
  have h1 : Z' q = some (.lst vs) := e.zz q _ upd_same
  refine ⟨⟨e.hh, fun a o h => ?_, fun a o h => ?_, fun a h => ?_⟩, h1⟩
  · have ne : a ≠ q := fun z => by rw [z, zq] at h; cases h
    rw [cutZ_ne ne]
    exact e.zz a o (by rw [upd_ne ne]; exact h)
  · by_cases z : a = q
    · rw [z, cutZ_same] at h; cases h
    · rw [cutZ_ne z] at h; exact e.zh a o h
  · by_cases z : a = q
    · rw [z, cutZ_same, zq]
    · rw [cutZ_ne z, e.st a h, upd_ne z]
theorem cut_rr {B Z H : Hp} {q : Addr} {vs : List V} {v : V} {r : Rs} (hq : Z q = some (.lst vs)) (n : noR r = true) (h : RRep K T B Z H v r) : RRep K T B (cutZ Z q) H v r := by
  cases r with
  | fro d => exact cut_rep hq d v n h
  | own ds =>
    obtain ⟨p, ws, rfl, b, hp, zp, rs⟩ := h
    refine ⟨p, ws, rfl, b, hp, ?_, cut_reps hq ds ws n rs⟩
    by_cases z : p = q
    · rw [z]; exact cutZ_same
    · rw [cutZ_ne z]; exact zp
  | bor ds => cases n
theorem cut_xr {Z H : Hp} {q : Addr} {vs : List V} {cls : Value} {d : Option Addr} {c : Nat} {ds : List Dt} (hq : Z q = some (.lst vs)) (n : noLs ds = true) (h : XRep K T Z H cls d c ds) : XRep K T (cutZ Z q) H cls d c ds := by
  obtain ⟨h1, h2 | ⟨x, dd, f, v, rfl, h3, h4, h5, h6⟩⟩ := h
  · exact ⟨h1, .inl h2⟩
  · simp only [noLs, Bool.and_eq_true] at n
    exact ⟨h1, .inr ⟨x, dd, f, v, rfl, h3, h4, h5, cut_rep hq x v n.1 h6⟩⟩
theorem si_frz {H0 Z H : Hp} {Z0 : Hx} {env : PEnv} {σ : St} {i : Nat} {ds : List Dt} (s : SI K T H0 Z0 env σ Z H) (he : env[i]? = some (some (.own ds))) : ∃ q vs, H q = some (.lst vs) ∧ Z q = none ∧ SI K T H0 Z0 (env.set i (some (.fro (.lst ds)))) σ (upd Z q (.lst vs)) H := by
  obtain ⟨v, e1, q, vs, rfl, b, hq, zq, rs⟩ := s.cell i _ he
  have lz : Le Z (upd Z q (.lst vs)) := Le.upd zq
  have hl : i < env.length := (List.getElem?_eq_some_iff.mp he).1
  have oi : isOwnC env[i]? := by rw [he]; exact True.intro
  refine ⟨q, vs, hq, zq, s.ext.freeze b zq hq, by simp [s.len], fun j c hj => ?_, fun j k u hjk h1 h2 h3 h4 => ?_, fun j c' ds' v' hj h' => ?_⟩
  · by_cases e : i = j
    · subst e
      rw [List.getElem?_set_self hl] at hj
      cases hj
      refine ⟨_, e1, ?_⟩
      show Rep K T _ (.lst ds) _
      simp only [Rep]
      exact ⟨q, vs, rfl, .of upd_same, rs.mono lz⟩
    · rw [List.getElem?_set_ne e] at hj
      obtain ⟨u, h1, h2⟩ := s.cell j c hj
      refine ⟨u, h1, ?_⟩
      cases c with
      | fro d => exact Rep.mono lz h2
      | own es =>
        obtain ⟨q2, ws, rfl, b2, hq2, zq2, rs2⟩ := h2
        have ne : q2 ≠ q := fun z => by
          subst z
          exact s.sep i j _ e oi (by rw [hj]; exact True.intro) e1 h1
        exact ⟨q2, ws, rfl, b2, hq2, by rw [upd_ne ne]; exact zq2, rs2.mono lz⟩
      | mk c es =>
        obtain ⟨q2, dx, ws, rfl, b2, hq2, zq2, rs2⟩ := h2
        have ne : q2 ≠ q := fun z => by
          subst z
          exact s.sep i j _ e oi (by rw [hj]; exact True.intro) e1 h1
        exact ⟨q2, dx, ws, rfl, b2, hq2, by rw [upd_ne ne]; exact zq2, rs2.mono lz⟩
  · have nf : ∀ m : Nat, isOwnC ((env.set i (some (.fro (.lst ds))))[m]?) → isOwnC env[m]? := fun m hm => by
      by_cases z : i = m
      · subst z; exact oi
      · rw [List.getElem?_set_ne z] at hm; exact hm
    exact s.sep j k u hjk (nf j h1) (nf k h2) h3 h4
  · by_cases e : i = j
    · subst e
      rw [List.getElem?_set_self hl] at hj; cases hj
    · rw [List.getElem?_set_ne e] at hj; exact s.me j _ _ _ hj h'
end
def eBor (n : Nat) (f : FE) : FE := fun ρ => match ρ[n]? with
  | some (some (.own ds)) => match f (ρ.set n (some (.fro (.lst ds)))) with
    | some (.ok r) => if noR r then some (.ok r) else none
    | some (.ex c es) => if noLs es then some (.ex c es) else none
    | none => none
  | _ => f ρ
def tBor (n : Nat) (f : FT) : FT := fun ρ => match ρ[n]? with
  | some (some (.own ds)) => match f (ρ.set n (some (.fro (.lst ds)))) with
    | some (.ok r) => some (.ok r)
    | some (.ex c es) => if noLs es then some (.ex c es) else none
    | none => none
  | _ => f ρ
section
variable {X : Cx} {T : Tab} {W : WX} {e : Expr} {f : FE} {t : FT} {n : Nat}
theorem pd_bor (n : Nat) (h : PD X T W e f) : PD X T W e (eBor n f) := PE.imp h fun σ H Q ⟨H0, Z0, env, Z, out, h, s, p⟩ => by
  unfold eBor at h
  split at h
  · rename_i ds he
    obtain ⟨q, vs, hq, zq, s1⟩ := si_frz s he
    split at h
    · rename_i r hf
      split at h
      · rename_i hn
        cases h
        refine ⟨H0, Z0, _, _, _, hf, s1, fun r' e' v Z' H' x rr => ?_, fun c ds' e' => nomatch e'⟩
        cases e'
        obtain ⟨x1, z1⟩ := cut_ext zq hq x
        exact p.ok _ rfl v _ H' x1 (cut_rr z1 hn rr)
      · cases h
    · rename_i c es hf
      split at h
      · rename_i hn
        cases h
        refine ⟨H0, Z0, _, _, _, hf, s1, (fun r' e' => nomatch e'), fun c' ds' e' cls d Z' H' x xr => ?_⟩
        cases e'
        obtain ⟨x1, z1⟩ := cut_ext zq hq x
        exact p.ex _ _ rfl cls d _ H' x1 (cut_xr z1 hn xr)
      · cases h
    · cases h
  · exact ⟨H0, Z0, env, Z, out, h, s, p⟩
theorem pdt_bor (n : Nat) (h : PDT X T W e t) : PDT X T W e (tBor n t) := PT.imp h fun σ H Q ⟨H0, Z0, env, Z, out, h, s, p⟩ => by
  unfold tBor at h
  split at h
  · rename_i ds he
    obtain ⟨q, vs, hq, zq, s1⟩ := si_frz s he
    split at h
    · rename_i r hf
      cases h
      refine ⟨H0, Z0, _, _, _, hf, s1, fun r' e' Z' H' x => ?_, fun c ds' e' => nomatch e'⟩
      cases e'
      obtain ⟨x1, z1⟩ := cut_ext zq hq x
      exact p.ok _ rfl _ H' x1
    · rename_i c es hf
      split at h
      · rename_i hn
        cases h
        refine ⟨H0, Z0, _, _, _, hf, s1, (fun r' e' => nomatch e'), fun c' ds' e' cls d Z' H' x xr => ?_⟩
        cases e'
        obtain ⟨x1, z1⟩ := cut_ext zq hq x
        exact p.ex _ _ rfl cls d _ H' x1 (cut_xr z1 hn xr)
      · cases h
    · cases h
  · exact ⟨H0, Z0, env, Z, out, h, s, p⟩
end
end Pd

set_option maxHeartbeats 2000000
/-! PdAK: sorted whole numbers, not in. -/
namespace Pd
open PySem PySem.Spec L2
def leI (a b : Int) : Bool := decide (a ≤ b)
def sortI (xs : List Int) : List Int := xs.mergeSort leI
theorem sortI_perm (xs : List Int) : (sortI xs).Perm xs := List.mergeSort_perm xs leI
theorem sortI_pw (xs : List Int) : (sortI xs).Pairwise (· ≤ ·) := (List.pairwise_mergeSort (le := leI) (fun a b c h k => by simp [leI] at *; omega) (fun a b => by simp [leI]; omega) xs).imp fun h => by simpa [leI] using h
theorem sortI_uniq {xs ys : List Int} (h : ys.Perm xs) (p : ys.Pairwise (· ≤ ·)) : ys = sortI xs :=
  List.Perm.eq_of_pairwise (le := (· ≤ ·)) (fun a b _ _ h1 h2 => Int.le_antisymm h1 h2) p (sortI_pw xs) (h.trans (sortI_perm xs).symm)
def gSorted : G1 := fun x => match asL x with
  | some ds => match intsD ds with
    | some ns => if ns.length < 64 then some (.ok (.own ((sortI ns).map Dt.int))) else none
    | none => none
  | none => none
theorem reps_ints {K : PySem.W.Frag} {T : Tab} {Z : Hp} : ∀ ns : List Int, Reps K T Z (ns.map Dt.int) (ns.map V.int)
  | [] => by simp only [List.map_nil, Reps]
  | n :: ns => by
    simp only [List.map_cons, Reps]
    exact ⟨_, _, rfl, by simp only [Rep], reps_ints ns⟩
theorem oc_sorted {K : PySem.W.Frag} {T : Tab} {W : WX} : OpC1 K T W (rSorted K) gSorted := fun σ B Z H x v out Q zh r1 hg p => by
  unfold gSorted at hg
  split at hg
  · rename_i ds hds
    split at hg
    · rename_i ns hns
      split at hg
      · rename_i h64
        cases hg
        obtain ⟨a, vs, rfl, h1, h2⟩ := r1.list zh hds
        rw [intsD_map hns] at h2
        rw [h2.intsI] at h1
        refine ⟨a, ns, rfl, h1, h64, fun ns' l hp hw hl => ?_⟩
        rw [sortI_uniq hp hw]
        exact p.own zh hl (reps_ints _)
      · cases hg
    · cases hg
  · cases hg
/-- x not in [..] by data -/
def gNotInD : G2 := fun x y => match pyR x, pyR y with
  | some a, some (.list bs) => if SeqAt.shaped a = true ∧ SeqAt.shaped (.list bs) = true then vB (!bs.any fun z => PyData.eqv z a) else none
  | _, _ => none
theorem o2_notInD {K : PySem.W.Frag} {T : Tab} {W : WX} : Op2 K T W (rNotInD K) gNotInD := fun σ B Z H x y v w out Q zh r1 r2 hg p => by
  unfold gNotInD at hg
  split at hg
  · rename_i a bs h1 h2
    split at hg
    · rename_i hs
      cases hg
      exact ⟨a, bs, pyR_ok zh r1 h1, pyR_ok zh r2 h2, hs.1, hs.2, p.fro zh (by simp only [Rep])⟩
    · cases hg
  · cases hg
section
variable {X : Cx} {T : Tab} {W : WX} {p pos : Pos} {a b : Expr} {fa fb : FE}
theorem pd_sorted (hm : X.mg "sorted" = none) (ha : PD X T W a fa) (hg : Gl X "sorted" := by rfl) (hs : starEach (a :: []) X.env = (false, eval a X.env) :: starEach [] X.env := by rfl) (hpl : (backTo pos (starEach [] X.env)).any (·.1) = false := by rfl) : PD X T W (.Call (.Name "sorted" p) [a] [] pos) (e1 gSorted fa) :=
  pd_bi1 cr_sorted oc_sorted hg hm (by decide +kernel) ha (hs := hs) (hpl := hpl)
theorem pd_notinD {k : Nat} (hr : Room k X.A) (ha : PD X T W a fa) (hb : PD X T W b fb) (hm : behindInMarks .NotIn b = false := by rfl) : PD X T W (.Compare a [.NotIn] [b] pos) (e2 gNotInD fa fb) := pd_cmp (op_notInD (units65 hr)) o2_notInD ha hb hm
theorem pdt_notinD {k : Nat} (hr : Room k X.A) (ha : PD X T W a fa) (hb : PD X T W b fb) (hm : behindInMarks .NotIn b = false := by rfl) : PDT X T W (.Compare a [.NotIn] [b] pos) (tB (e2 gNotInD fa fb)) := pdt_cmp (op_notInD (units65 hr)) o2_notInD ha hb hm
end
end Pd

set_option maxHeartbeats 2000000
/-! PdAL: try .. except X as e: if a test of e: statements. -/
namespace Pd
open PySem PySem.Spec L2
def unsetI (i : Nat) : Option Out → Option Out
  | some (.nx ρ) => some (.nx (ρ.set i none))
  | some (.rt r) => some (.rt r)
  | _ => none
def sTryIf (i : Nat) (hit res : Nat → Option Bool) (F G : FS) : FS := fun ρ => match F ρ with
  | some (.xc c ds ρ') => if ds = [] ∧ i < ρ'.length then (match hit c with
    | some true => match res c with
      | some true => unsetI i (G (ρ'.set i none))
      | some false => some (.nx (ρ'.set i none))
      | none => none
    | some false => some (.xc c ds ρ')
    | none => none) else none
  | o => o
section
variable {X : Cx} {T : Tab} {W : WX} {i : Nat} {x n : Str} {np rp pos pos' : Pos} {E : Expr} {body stmts : List Stmt} {F G : FS} {u : Addr}
theorem pds_tryIf (hit res : Nat → Option Bool) (hs : X.stack = X.env :: X.outer) (hf : X.env.frame = some X.env.locals) (hN : X.N.Nodup) (hi : X.N[i]? = some n) (hln : X.env.kindOf n = some .local) (hc : Names X x (.ref u)) (tk : Takes X W)
    (hb : ∀ (W' : WX) (pn : List (Addr × Obj)) (xe : Value → Shared → Prop), Takes (X.tr pn xe) W' → PassesOwn (model X.prog X.w) X.A X.env xe → PDSs (X.tr pn xe) T W' body F)
    (hh : ∀ c b, hit c = some b → PySem.W.exmOne X.K (.ref (T.ca c)) (.ref u) = some b)
    (hE : ∀ c r, res c = some r → ∀ (a : Addr) (oe : Obj) (pn : List (Addr × Obj)), Zc (.ref (T.ca c)) none oe → (∃ vs, oe.data = .fields vs) → PE (X.suite a ((a, oe) :: pn)) E (tK i a r))
    (hG : ∀ (a : Addr) (oe : Obj) (pn : List (Addr × Obj)), PDSs (X.suite a ((a, oe) :: pn)) T W stmts G)
    (htr : ∀ (a : Addr) (oe : Obj) (pn : List (Addr × Obj)), ∀ whole, isTrue E (X.suite a ((a, oe) :: pn)).env whole = (do let v ← whole; standAt E.pos; holding [v] (truthy v)) := by intro _ _ _ _; rfl) :
    PDS X T W (.Try body [.ExceptHandler (some (.Name x np)) (some n) [.If E stmts [] rp] pos'] [] [] pos) (sTryIf i hit res F G) := by
  refine PS.imp (ps_try_as (i := i) (tb := fun W' => tDS X.K T W' F) (ts := fun a cls d D σ H => ∃ c r, cls = .ref (T.ca c) ∧ d = none ∧ res c = some r ∧ σ[i]? = some (some (.ref a)) ∧ (if r = true then tDS X.K T W G D σ H else D.nx σ H)) hs hf hN hi hln hc tk (fun W' pn xe t po => hb W' pn xe t po) fun a oe cls d pn hz hd => ?_) fun D σ H ⟨H0, Z0, env, Z, out, h, s, po⟩ => ?_
  · refine ⟨fun pins s σ H D I hh => ?_⟩
    obtain ⟨c, r, rfl, rfl, hr, hσ, q⟩ := hh
    refine (pss_one (ps_if (pt_val (hE c r hr a oe pn hz hd) (htr a oe pn)) (hG a oe pn) pss_nil)).run pins s σ H D I ?_
    exact ⟨hσ, r, rfl, q⟩
  · unfold sTryIf at h
    cases hF : F env with
    | none => rw [hF] at h; cases h
    | some o =>
      rw [hF] at h
      cases o with
      | nx ρ' => cases h; exact ⟨H0, Z0, env, Z, _, hF, s, po.nx, fun r q => (nomatch q), fun r q => (nomatch q), fun r q => (nomatch q), fun c ds r q => (nomatch q)⟩
      | rt r => cases h; exact ⟨H0, Z0, env, Z, _, hF, s, fun r q => (nomatch q), po.rt, fun r q => (nomatch q), fun r q => (nomatch q), fun c ds r q => (nomatch q)⟩
      | bk ρ' => cases h; exact ⟨H0, Z0, env, Z, _, hF, s, fun r q => (nomatch q), fun r q => (nomatch q), po.bk, fun r q => (nomatch q), fun c ds r q => (nomatch q)⟩
      | ct ρ' => cases h; exact ⟨H0, Z0, env, Z, _, hF, s, fun r q => (nomatch q), fun r q => (nomatch q), fun r q => (nomatch q), po.ct, fun c ds r q => (nomatch q)⟩
      | xc c ds ρ' =>
        refine ⟨H0, Z0, env, Z, _, hF, s, fun r q => (nomatch q), fun r q => (nomatch q), fun r q => (nomatch q), fun r q => (nomatch q), fun c' ds' env' q cls d σ' Z' H' s' xr => ?_⟩
        cases q
        dsimp only at h
        split at h
        · rename_i hds
          obtain ⟨hds, hil⟩ := hds
          subst hds
          obtain ⟨rfl, hx⟩ := xr
          obtain ⟨_, rfl⟩ | ⟨_, _, _, _, z, _⟩ := hx
          · have hlen : i < σ'.length := by rw [← s'.len]; exact hil
            split at h
            · rename_i ht
              split at h
              · rename_i hr
                refine ⟨true, hh _ _ ht, fun _ a na => ⟨c, true, rfl, rfl, hr, by rw [List.getElem?_set_self hlen], iteT ?_⟩, fun z => (nomatch z)⟩
                have sj := setJunk s' i (some (.ref a))
                cases hG2 : G (ρ'.set i none) with
                | none => rw [hG2] at h; cases h
                | some o =>
                  rw [hG2] at h
                  cases o with
                  | nx ρ2 =>
                    cases h
                    refine ⟨H0, Z0, _, Z', _, hG2, sj, fun env3 q σ3 Z3 H3 s3 => ?_, fun r q => (nomatch q), fun r q => (nomatch q), fun r q => (nomatch q), fun c ds r q => (nomatch q)⟩
                    cases q
                    exact po.nx _ rfl _ Z3 H3 (setJunk s3 i none)
                  | rt r =>
                    cases h
                    exact ⟨H0, Z0, _, Z', _, hG2, sj, fun r q => (nomatch q), fun r q => po.rt r q, fun r q => (nomatch q), fun r q => (nomatch q), fun c ds r q => (nomatch q)⟩
                  | bk ρ2 => cases h
                  | ct ρ2 => cases h
                  | xc c2 ds2 ρ2 => cases h
              · rename_i hr
                cases h
                refine ⟨true, hh _ _ ht, fun _ a na => ⟨c, false, rfl, rfl, hr, by rw [List.getElem?_set_self hlen], iteF ?_⟩, fun z => (nomatch z)⟩
                have := po.nx _ rfl _ Z' H' (setJunk s' i none)
                show D.nx ((σ'.set i (some (.ref a))).set i none) H'
                rw [List.set_set]
                exact this
              · cases h
            · rename_i ht
              cases h
              exact ⟨false, hh _ _ ht, fun z => (nomatch z), fun _ => po.xc _ _ _ rfl _ _ σ' Z' H' s' ⟨rfl, .inl ⟨rfl, rfl⟩⟩⟩
            · cases h
          · cases z
        · cases h
end
end Pd

set_option maxHeartbeats 2000000
/-! PdM: running the plain functions. -/
namespace Pd
open PySem PySem.Spec L2
/-! ### steps -/
section
variable (ρ : PEnv) (d : Dt) (i j : Int) (a b : Bool) (f g h : FE) (F H : FS) (ds : List Dt) (n : Nat)
@[simp] theorem eC_eq : eC d ρ = some (.ok (.fro d)) := rfl
theorem eVar_fro (h : ρ[n]? = some (some (.fro d))) : eVar n ρ = some (.ok (.fro d)) := by unfold eVar; rw [h]
theorem eVar_own (h : ρ[n]? = some (some (.own ds))) : eVar n ρ = some (.ok (.bor ds)) := by unfold eVar; rw [h]
@[simp] theorem e2_eq (gg : G2) : e2 gg f g ρ = bnd (f ρ) fun x => bnd (g ρ) fun y => gg x y := rfl
@[simp] theorem e1_eq (gg : G1) : e1 gg f ρ = bnd (f ρ) gg := rfl
@[simp] theorem gAdd_eq : gAdd (.fro (.int i)) (.fro (.int j)) = vI (i + j) := rfl
@[simp] theorem gSub_eq : gSub (.fro (.int i)) (.fro (.int j)) = vI (i - j) := rfl
theorem gMul_eq : gMul (.fro (.int i)) (.fro (.int j)) = if mulOk i j then vI (i * j) else none := rfl
theorem gDiv_eq : gDiv (.fro (.int i)) (.fro (.int j)) = if divOk i j then vI (i.fdiv j) else none := rfl
theorem gMod_eq : gMod (.fro (.int i)) (.fro (.int j)) = if modOk i j then vI (i.fmod j) else none := rfl
theorem gPow_eq : gPow (.fro (.int i)) (.fro (.int j)) = if powOk i j then vI (i ^ j.toNat) else none := rfl
@[simp] theorem gLt_eq : gLt (.fro (.int i)) (.fro (.int j)) = vB (decide (i < j)) := rfl
@[simp] theorem gLe_eq : gLe (.fro (.int i)) (.fro (.int j)) = vB (decide (i ≤ j)) := rfl
@[simp] theorem gGt_eq : gGt (.fro (.int i)) (.fro (.int j)) = vB (decide (j < i)) := rfl
@[simp] theorem gGe_eq : gGe (.fro (.int i)) (.fro (.int j)) = vB (decide (j ≤ i)) := rfl
@[simp] theorem gNeg_eq : gNeg (.fro (.int i)) = vI (-i) := rfl
@[simp] theorem gMin_eq : gMin (.fro (.int i)) (.fro (.int j)) = vI (if j < i then j else i) := rfl
@[simp] theorem gMax_eq : gMax (.fro (.int i)) (.fro (.int j)) = vI (if i < j then j else i) := rfl
@[simp] theorem asI_eq : asI (.fro (.int i)) = some (.ok i) := rfl
@[simp] theorem asB_eq : asB (.fro (.bl a)) = some (.ok a) := rfl
@[simp] theorem tru_bl : tru (.fro (.bl a)) = some (.ok a) := rfl
@[simp] theorem tB_eq : tB f ρ = bnd (f ρ) asB := rfl
@[simp] theorem tTru_eq : tTru f ρ = bnd (f ρ) tru := rfl
@[simp] theorem tNot_eq (t : FT) : tNot t ρ = bnd (t ρ) fun b => some (.ok (!b)) := rfl
@[simp] theorem tAnd_eq (t u : FT) : tAnd t u ρ = bnd (t ρ) fun b => if b then u ρ else some (.ok false) := rfl
@[simp] theorem tOr_eq (t u : FT) : tOr t u ρ = bnd (t ρ) fun b => if b then some (.ok true) else u ρ := rfl
@[simp] theorem eAnd_eq : eAnd f g ρ = bnd (f ρ) fun r => bnd (asB r) fun b => if b then g ρ else vB false := rfl
@[simp] theorem eOr_eq : eOr f g ρ = bnd (f ρ) fun r => bnd (asB r) fun b => if b then vB true else g ρ := rfl
@[simp] theorem eNot_eq : eNot f ρ = bnd (f ρ) fun r => bnd (asB r) fun b => vB (!b) := rfl
@[simp] theorem eIf_eq (t : FT) : eIf t f g ρ = bnd (t ρ) fun b => if b then f ρ else g ρ := rfl
@[simp] theorem eChain_eq (gg gg' : G2) : eChain gg gg' f g h ρ = bnd (f ρ) fun x => bnd (g ρ) fun y => bnd (gg x y) fun z => bnd (asB z) fun b => if b then bnd (h ρ) fun w => gg' y w else vB false := rfl
@[simp] theorem sSet_eq : sSet n f ρ = bndS ρ (f ρ) fun r => match celOf r with | some c => some (.nx (ρ.set n (some c))) | none => none := rfl
@[simp] theorem celOf_fro : celOf (.fro d) = some (.fro d) := rfl
@[simp] theorem celOf_own : celOf (.own ds) = some (.own ds) := rfl
@[simp] theorem sNext_eq : sNext ρ = some (.nx ρ) := rfl
@[simp] theorem sIf_eq (t : FT) : sIf t F H ρ = bndS ρ (t ρ) fun b => if b then F ρ else H ρ := rfl
@[simp] theorem sExpr_eq : sExpr f ρ = bndS ρ (f ρ) fun _ => some (.nx ρ) := rfl
@[simp] theorem aNil_eq : aNil ρ = some (.ok []) := rfl
@[simp] theorem aCons_eq (fs : FA) : aCons f fs ρ = bnd (f ρ) fun r => bnd (frz r) fun d => bnd (fs ρ) fun ds => some (.ok (d :: ds)) := rfl
@[simp] theorem eLst_eq (fs : FA) : eLst fs ρ = bnd (fs ρ) fun ds => if ds.length ≤ LINE then some (.ok (.own ds)) else none := rfl
@[simp] theorem eTup_eq (fs : FA) : eTup fs ρ = bnd (fs ρ) fun ds => if ds.length ≤ LINE then some (.ok (.fro (.tup ds))) else none := rfl
theorem iRng1_eq : iRng1 f ρ = bnd (f ρ) fun r => bnd (asI r) fun n => if rOk n then some (.ok (intsFrom 0 n.toNat)) else none := rfl
theorem iRng2_eq : iRng2 f g ρ = bnd (f ρ) fun r => bnd (g ρ) fun q => bnd (asI r) fun a => bnd (asI q) fun b => if rOk a && rOk b then some (.ok (intsFrom a (b - a).toNat)) else none := rfl
theorem iRngD_eq : iRngD f g ρ = bnd (f ρ) fun r => bnd (g ρ) fun q => bnd (asI r) fun a => bnd (asI q) fun b => if rOk a && rOk b then some (.ok (intsBy a (-1) (a - b).toNat)) else none := rfl
@[simp] theorem sFor_eq (it : FIt) (gt : GT) : sFor it gt F ρ = bndS ρ (it ρ) fun ds => forD gt F ds ρ := rfl
@[simp] theorem gtName_eq : gtName n d ρ = some (ρ.set n (some (.fro d))) := rfl
@[simp] theorem eCa_eq (fn : Fn) (fa : FA) : eCa n fn fa ρ = bnd (fa ρ) fun ds => if ds.length = n then fn ds else none := by
  unfold eCa eCall
  cases fa ρ with
  | none => rfl
  | some x =>
    cases x with
    | ex c es => rfl
    | ok ds =>
      show (if ds.length = n ∧ ([] : List Dt).length = 0 then fn ds else none) = (if ds.length = n then fn ds else none)
      simp
theorem eCa_run {fn : Fn} {fa : FA} {ρ : PEnv} {ds : List Dt} {n : Nat} (h : fa ρ = some (.ok ds)) (hl : ds.length = n := by rfl) : eCa n fn fa ρ = fn ds := by
  rw [eCa_eq, h, bnd_ok, if_pos hl]
@[simp] theorem gEqS_int : gEqS (.fro (.int i)) (.fro (.int j)) = vB (decide (i = j)) := by
  unfold gEqS sclD
  simp
@[simp] theorem gNeS_int : gNeS (.fro (.int i)) (.fro (.int j)) = vB (!decide (i = j)) := by
  unfold gNeS sclD
  simp
/-- one statement, then the next -/
theorem sSeq_nx {ρ ρ' : PEnv} {F H : FS} (h : F ρ = some (.nx ρ')) : sSeq F H ρ = H ρ' := by unfold sSeq; rw [h]
theorem sSeq_rt {ρ : PEnv} {F H : FS} {r : Rs} (h : F ρ = some (.rt r)) : sSeq F H ρ = some (.rt r) := by unfold sSeq; rw [h]
theorem sSeq_xc {ρ ρ' : PEnv} {F H : FS} {c : Nat} {es : List Dt} (h : F ρ = some (.xc c es ρ')) : sSeq F H ρ = some (.xc c es ρ') := by unfold sSeq; rw [h]
end
theorem p18 : (10 : Int) ^ 18 = 1000000000000000000 := by decide +kernel
@[simp] theorem gPow_18 : gPow (.fro (.int 10)) (.fro (.int 18)) = vI 1000000000000000000 := by
  rw [gPow_eq, if_pos (by decide), show (18 : Int).toNat = 18 from rfl, p18]
theorem rng1_run {f : FE} {ρ : PEnv} {n : Int} (h : f ρ = some (.ok (.fro (.int n)))) (hr : rOk n = true) : iRng1 f ρ = some (.ok (intsFrom 0 n.toNat)) := by
  unfold iRng1
  rw [h, bnd_ok, asI_eq, bnd_ok, hr]
  rfl
theorem rng2_run {f g : FE} {ρ : PEnv} {m n : Int} (h : f ρ = some (.ok (.fro (.int m)))) (h' : g ρ = some (.ok (.fro (.int n)))) (hm : rOk m = true) (hn : rOk n = true) : iRng2 f g ρ = some (.ok (intsFrom m (n - m).toNat)) := by
  unfold iRng2
  rw [h, bnd_ok, h', bnd_ok, asI_eq, bnd_ok, asI_eq, bnd_ok, hm, hn]
  rfl
theorem rngD_run {f g : FE} {ρ : PEnv} {m n : Int} (h : f ρ = some (.ok (.fro (.int m)))) (h' : g ρ = some (.ok (.fro (.int n)))) (hm : rOk m = true) (hn : rOk n = true) : iRngD f g ρ = some (.ok (intsBy m (-1) (m - n).toNat)) := by
  unfold iRngD
  rw [h, bnd_ok, h', bnd_ok, asI_eq, bnd_ok, asI_eq, bnd_ok, hm, hn]
  rfl
theorem for_run {it : FIt} {gt : GT} {F : FS} {ρ : PEnv} {ds : List Dt} (h : it ρ = some (.ok ds)) : sFor it gt F ρ = forD gt F ds ρ := by
  unfold sFor
  rw [h, bndS_ok]
/-! ### loops -/
theorem for_nx {gt : GT} {body : FS} (I : Nat → PEnv → Prop) : ∀ {ds : List Dt} {ρ : PEnv} (m : Nat), I m ρ →
    (∀ i ρ d, ds[i]? = some d → I (m + i) ρ → ∃ ρ1 ρ2, gt d ρ = some ρ1 ∧ (body ρ1 = some (.nx ρ2) ∨ body ρ1 = some (.ct ρ2)) ∧ I (m + i + 1) ρ2) → ∃ ρ', forD gt body ds ρ = some (.nx ρ') ∧ I (m + ds.length) ρ'
  | [], ρ, m, h0, _ => ⟨ρ, rfl, h0⟩
  | d :: ds, ρ, m, h0, st => by
    obtain ⟨ρ1, ρ2, e1, e2, h2⟩ := st 0 ρ d rfl h0
    obtain ⟨ρ', e3, h3⟩ := for_nx I (ds := ds) (ρ := ρ2) (m + 1) h2 (fun i ρ d hd hI => by
      have := st (i + 1) ρ d (by simpa using hd) (by rwa [show m + (i + 1) = m + 1 + i by omega])
      rwa [show m + (i + 1) + 1 = m + 1 + i + 1 by omega] at this)
    refine ⟨ρ', ?_, by rw [List.length_cons, show m + (ds.length + 1) = m + 1 + ds.length by omega]; exact h3⟩
    unfold forD
    rw [e1]
    rcases e2 with e2 | e2 <;> simp only [e2] <;> exact e3
/-- a loop over a range -/
theorem for_rng {v : Nat} {body : FS} {a : Int} {n : Nat} {ρ : PEnv} (I : Nat → PEnv → Prop) (h0 : I 0 ρ)
    (st : ∀ i ρ, i < n → I i ρ → ∃ ρ2, (body (ρ.set v (some (.fro (.int (a + i))))) = some (.nx ρ2) ∨ body (ρ.set v (some (.fro (.int (a + i))))) = some (.ct ρ2)) ∧ I (i + 1) ρ2) :
    ∃ ρ', forD (gtName v) body (intsFrom a n) ρ = some (.nx ρ') ∧ I n ρ' := by
  obtain ⟨ρ', e, h⟩ := for_nx (gt := gtName v) (body := body) I (ds := intsFrom a n) (ρ := ρ) 0 h0 fun i ρ d hd hI => by
    obtain ⟨hi, rfl⟩ := intsFrom_get a n i hd
    rw [Nat.zero_add] at hI ⊢
    obtain ⟨ρ2, e, h⟩ := st i ρ hi hI
    exact ⟨_, ρ2, rfl, e, h⟩
  rw [intsFrom_length, Nat.zero_add] at h
  exact ⟨ρ', e, h⟩
/-! ### numbers -/
theorem log2_lt {x a : Nat} (h : x < 2 ^ a) (ha : 0 < a) : x.log2 < a := by
  by_cases z : x = 0
  · subst z; simpa using ha
  · exact (Nat.log2_lt z).mpr h
theorem mulOk_of {i j : Int} (a b : Nat) (h1 : i.natAbs < 2 ^ a) (h2 : j.natAbs < 2 ^ b) (h : a + b ≤ 100000000 := by decide) (ha : 0 < a := by decide) (hb : 0 < b := by decide) : mulOk i j = true := by
  unfold mulOk
  have := log2_lt h1 ha
  have := log2_lt h2 hb
  exact decide_eq_true (by omega)
theorem divOk_of {i j : Int} (h0 : 0 < j) (h : j < 2 ^ 64) : divOk i j = true := decide_eq_true (by omega)
theorem divOk_ne {i j : Int} (h0 : j ≠ 0) : divOk i j = true := decide_eq_true h0
theorem modOk_of {i j : Int} (h0 : j ≠ 0) : modOk i j = true := decide_eq_true h0
theorem rOk_of {i : Int} (h1 : -1000000000000000000 ≤ i) (h2 : i ≤ 1000000000000000000) : rOk i = true := by
  unfold rOk
  simp only [Bool.and_eq_true, decide_eq_true_eq]
  constructor <;> omega
theorem fmod_pos {i j : Int} (h : 0 < j) : 0 ≤ i.fmod j ∧ i.fmod j < j := ⟨Int.fmod_nonneg_of_pos i h, Int.fmod_lt_of_pos i h⟩
theorem bits_lt {z : Int} {n : Nat} (h : Builtin.Int.intBits z ≤ n) : z.natAbs < 2 ^ n := by
  unfold Builtin.Int.intBits at h
  split at h
  · rename_i e
    have : z = 0 := by simpa using e
    subst this
    exact Nat.pow_pos (by decide)
  · have : z.natAbs ≠ 0 := by
      rename_i e
      intro q
      have : z = 0 := by omega
      subst this
      simp at e
    exact (Nat.log2_lt this).mp (by omega)
@[simp] theorem gIx_bor {ds : List Dt} {i : Int} : gIx (.bor ds) (.fro (.int i)) = (match atI ds i with | some d => some (.ok (.fro d)) | none => none) := rfl
@[simp] theorem gIx_lst {ds : List Dt} {i : Int} : gIx (.fro (.lst ds)) (.fro (.int i)) = (match atI ds i with | some d => some (.ok (.fro d)) | none => none) := rfl
@[simp] theorem gIx_tup {ds : List Dt} {i : Int} : gIx (.fro (.tup ds)) (.fro (.int i)) = (match atI ds i with | some d => some (.ok (.fro d)) | none => none) := rfl
theorem atI_nat {ds : List Dt} {i : Int} {d : Dt} (h0 : 0 ≤ i) (h : ds[i.toNat]? = some d) : atI ds i = some d := by
  unfold atI ixN
  have hl : i.toNat < ds.length := (List.getElem?_eq_some_iff.mp h).1
  rw [if_pos h0, if_pos (by omega)]
  exact h
@[simp] theorem gLen_bor {ds : List Dt} : gLen (.bor ds) = vI ds.length := rfl
@[simp] theorem gLen_own {ds : List Dt} : gLen (.own ds) = vI ds.length := rfl
@[simp] theorem gLen_lst {ds : List Dt} : gLen (.fro (.lst ds)) = vI ds.length := rfl
@[simp] theorem gLen_tup {ds : List Dt} : gLen (.fro (.tup ds)) = vI ds.length := rfl
end Pd

set_option maxHeartbeats 2000000
/-! PdN: the drawn numbers. -/
namespace Pd
open PySem PySem.Spec L2
theorem sApp_eq {i : Nat} {f : FE} {ρ : PEnv} {ds : List Dt} {d : Dt} (h : ρ[i]? = some (some (.own ds))) (hf : f ρ = some (.ok (.fro d))) (hl : ds.length < LINE) : sApp i f ρ = some (.nx (ρ.set i (some (.own (ds ++ [d]))))) := by
  unfold sApp
  rw [h]
  simp only [hf, bndS_ok, frz_fro, hl, if_true]
theorem fnD_run {np nl : Nat} {F : FS} {args : List Dt} (h : args.length = np) : fnD np nl F args = outR (F (args.map (fun d => some (.fro d)) ++ List.replicate nl none)) := if_pos h
theorem asL_lst {ds : List Dt} : asL (.fro (.lst ds)) = some ds := rfl
noncomputable def b_numsB : FS :=
  sIf (tAnd (tTru (eVar 3)) (tB (e2 gGt (eVar 2) (eC (.int 0)))))
  (sSeq (sApp 4 (e2 gMod (eVar 2) (eC (.int 1000000))))
  (sSet 2 (e2 gDiv (eVar 2) (eC (.int 1000000)))))
  (sSeq (sSet 6 (eC (.int 13)))
  (sSeq (sIf (tB (e2 gGt (e1 gLen (eVar 0)) (eC (.int 0))))
  (sSet 6 (e2 gAdd (e2 gIx (eVar 0) (e2 gMod (eVar 5) (e1 gLen (eVar 0)))) (e2 gMul (eC (.int 7919)) (eVar 5))))
  sNext)
  (sApp 4 (e2 gMod (e2 gMod (e2 gMul (e2 gMod (e2 gMul (eVar 6) (eC (.int 48271))) (eC (.int 2147483647))) (eC (.int 69621))) (eC (.int 2147483629))) (eC (.int 1000000))))))
noncomputable def b_nums : FS :=
  sSeq (sSet 2 (eC (.int 0)))
  (sSeq (sIf (tB (e2 gGt (e1 gLen (eVar 0)) (eC (.int 0))))
  (sSet 2 (e2 gIx (eVar 0) (eC (.int 0))))
  sNext)
  (sSeq (sSet 3 (e2 gGe (eVar 2) (e2 gPow (eC (.int 10)) (eC (.int 18)))))
  (sSeq (sSet 4 (eLst aNil))
  (sSeq (sFor (iRng1 (eVar 1)) (gtName 5)
  b_numsB)
  (sRetV 4)))))
abbrev cI (i : Int) : Option Cel := some (.fro (.int i))
abbrev cB (b : Bool) : Option Cel := some (.fro (.bl b))
abbrev cD (d : Dt) : Option Cel := some (.fro d)
abbrev cO (ds : List Dt) : Option Cel := some (.own ds)
theorem div6 (i : Int) : divOk i 1000000 = true := divOk_of (by decide) (by decide)
theorem modOk6 (i : Int) : modOk i 1000000 = true := modOk_of (by decide)
theorem modOk47 (i : Int) : modOk i 2147483647 = true := modOk_of (by decide)
theorem modOk29 (i : Int) : modOk i 2147483629 = true := modOk_of (by decide)
theorem natAbs_add_lt {n : Nat} {x y : Int} (h1 : x.natAbs < 2 ^ n) (h2 : y.natAbs < 2 ^ n) : (x + y).natAbs < 2 ^ (n + 1) := by
  rw [Nat.pow_succ]
  generalize (2 : Nat) ^ n = A at *
  omega
theorem pow_lt_mono {x m n : Nat} (h : x < 2 ^ m) (hn : m ≤ n) : x < 2 ^ n := Nat.lt_of_lt_of_le h (Nat.pow_le_pow_right (by decide) hn)
theorem mul_small {z c : Int} {n : Nat} (h : z.natAbs < 2 ^ n) (hc : c.natAbs < 2 ^ 20) (hn0 : 0 < n) (hn : n ≤ 90000000) : mulOk z c = true := mulOk_of n 20 h hc (by omega) hn0
theorem cell_okN {n : Nat} (hn1 : 30 ≤ n) (hn2 : n ≤ 80000000) {ns : List Int} (hb : ∀ z ∈ ns, Builtin.Int.intBits z ≤ n) {a : Int} (ha : a ∈ ns) {i : Nat} (hi : i ≤ 1000) : mulOk (a + 7919 * (i : Int)) 48271 = true :=
  mul_small (n := n + 1) (natAbs_add_lt (bits_lt (hb a ha)) (pow_lt_mono (m := 30) (by omega) hn1)) (by decide) (by omega) (by omega)
theorem cell_ok {ns : List Int} (hb : ∀ z ∈ ns, Builtin.Int.intBits z ≤ 1048576) {a : Int} (ha : a ∈ ns) {i : Nat} (hi : i ≤ 1000) : mulOk (a + 7919 * (i : Int)) 48271 = true :=
  cell_okN (n := 1048576) (by omega) (by omega) hb ha hi
theorem nums_run {ns : List Int} (hl : ns.length ≤ 63) (hb : ∀ z ∈ ns, Builtin.Int.intBits z ≤ 1048576) (n : Nat) (hn : n ≤ 1000) :
    ∃ xs : List Int, xs.length = n ∧ (∀ x ∈ xs, 0 ≤ x ∧ x < 1000000) ∧ fnD 2 5 b_nums [.lst (ns.map Dt.int), .int n] = some (.ok (.own (xs.map Dt.int))) := by
  -- the loop
  have loop : ∀ (rest : Int) (byd : Bool), ∃ (xs : List Int), xs.length = n ∧ (∀ x ∈ xs, 0 ≤ x ∧ x < 1000000) ∧ ∃ (r' : Int) (v5 v6 : Option Cel), forD (gtName 5)
      b_numsB
      (intsFrom 0 n) [cD (.lst (ns.map Dt.int)), cI n, cI rest, cB byd, cO [], none, none] = some (.nx [cD (.lst (ns.map Dt.int)), cI n, cI r', cB byd, cO (xs.map Dt.int), v5, v6]) := by
    intro rest byd
    obtain ⟨ρ', e, xs, h1, h2, r', v5, v6, rfl⟩ := for_rng (v := 5) (body := b_numsB) (a := 0) (n := n) (ρ := [cD (.lst (ns.map Dt.int)), cI n, cI rest, cB byd, cO [], none, none])
      (fun i ρ => ∃ xs : List Int, xs.length = i ∧ (∀ x ∈ xs, 0 ≤ x ∧ x < 1000000) ∧ ∃ (r' : Int) (v5 v6 : Option Cel), ρ = [cD (.lst (ns.map Dt.int)), cI n, cI r', cB byd, cO (xs.map Dt.int), v5, v6])
      ⟨[], rfl, fun x hx => (nomatch hx), rest, none, none, rfl⟩ (fun i ρ hi ⟨xs, h1, h2, r', v5, v6, e⟩ => by
        subst e
        have app : ∀ (z : Int), 0 ≤ z → z < 1000000 → ∀ x ∈ xs ++ [z], 0 ≤ x ∧ x < 1000000 := fun z z0 z1 x hx => by
          rcases List.mem_append.mp hx with h | h
          · exact h2 x h
          · rw [List.mem_singleton.mp h]; exact ⟨z0, z1⟩
        have hlen : (xs.map Dt.int).length < LINE := by
          rw [List.length_map, h1]
          have : LINE = 16777216 := rfl
          omega
        have mz := fun z : Int => fmod_pos (i := z) (j := 1000000) (by decide)
        by_cases hc : byd = true ∧ 0 < r'
        · -- by digits
          refine ⟨[cD (.lst (ns.map Dt.int)), cI n, cI (r'.fdiv 1000000), cB byd, cO ((xs ++ [r'.fmod 1000000]).map Dt.int), cI (0 + i), v6], .inl ?_, _, by simp [h1], app _ (mz _).1 (mz _).2, _, _, _, rfl⟩
          show sIf _ _ _ [cD (.lst (ns.map Dt.int)), cI n, cI r', cB byd, cO (xs.map Dt.int), cI (0 + i), v6] = _
          rw [sIf_eq]
          simp only [tAnd_eq, tTru_eq, tB_eq, e2_eq]
          simp [gMul_eq, gDiv_eq, gMod_eq, eVar, hc.1, hc.2]
          rw [sSeq_nx (sApp_eq (ds := xs.map Dt.int) (d := .int (r'.fmod 1000000)) rfl (by simp [gMul_eq, gDiv_eq, gMod_eq, eVar, modOk6]) hlen)]
          simp [gMul_eq, gDiv_eq, gMod_eq, eVar, div6]
        · have ht : (sIf (tAnd (tTru (eVar 3)) (tB (e2 gGt (eVar 2) (eC (.int 0))))) : FS → FS → FS) = sIf (tAnd (tTru (eVar 3)) (tB (e2 gGt (eVar 2) (eC (.int 0))))) := rfl
          have cell : ∃ z : Int, mulOk z 48271 = true ∧ sSeq (sSet 6 (eC (.int 13))) (sIf (tB (e2 gGt (e1 gLen (eVar 0)) (eC (.int 0))))
              (sSet 6 (e2 gAdd (e2 gIx (eVar 0) (e2 gMod (eVar 5) (e1 gLen (eVar 0)))) (e2 gMul (eC (.int 7919)) (eVar 5)))) sNext) [cD (.lst (ns.map Dt.int)), cI n, cI r', cB byd, cO (xs.map Dt.int), cI (0 + i), v6] = some (.nx [cD (.lst (ns.map Dt.int)), cI n, cI r', cB byd, cO (xs.map Dt.int), cI (0 + i), cI z]) := by
            by_cases hz : ns = []
            · subst hz
              refine ⟨13, mulOk_of 10 20 (by decide) (by decide), by rw [sSeq_nx (ρ' := [cD (.lst []), cI n, cI r', cB byd, cO (xs.map Dt.int), cI (0 + i), cI 13]) (by simp)]; simp [gMul_eq, gDiv_eq, gMod_eq, eVar]⟩
            · have hp : 0 < ns.length := List.length_pos_iff.mpr hz
              have hp' : (0 : Int) < ns.length := by omega
              obtain ⟨m0, m1⟩ := fmod_pos (i := (i : Int)) (j := ns.length) hp'
              have hk : ((i : Int).fmod ns.length).toNat < ns.length := by omega
              refine ⟨ns[((i : Int).fmod ns.length).toNat] + 7919 * i, ?_, ?_⟩
              · exact cell_ok hb (List.getElem_mem hk) (by omega)
              · rw [sSeq_nx (ρ' := [cD (.lst (ns.map Dt.int)), cI n, cI r', cB byd, cO (xs.map Dt.int), cI (0 + i), cI 13]) (by simp)]
                have e1 : modOk (i : Int) ns.length = true := modOk_of (by omega)
                have e2 : mulOk 7919 (i : Int) = true := mulOk_of 30 30 (by decide) (by omega)
                have e3 : atI (ns.map Dt.int) ((i : Int).fmod ns.length) = some (.int ns[((i : Int).fmod ns.length).toNat]) := atI_nat m0 (by simp [hk])
                simp [gMul_eq, gDiv_eq, gMod_eq, eVar, hp, e1, e2, e3]
          obtain ⟨z, hz, ez⟩ := cell
          have k1 : mulOk z 48271 = true := hz
          have g1 := fmod_pos (i := z * 48271) (j := 2147483647) (by decide)
          have k2 : mulOk ((z * 48271).fmod 2147483647) 69621 = true := mulOk_of 40 20 (by omega) (by decide)
          refine ⟨[cD (.lst (ns.map Dt.int)), cI n, cI r', cB byd, cO ((xs ++ [(((z * 48271).fmod 2147483647 * 69621).fmod 2147483629).fmod 1000000]).map Dt.int), cI (0 + i), cI z], .inl ?_, _, by simp [h1], app _ (mz _).1 (mz _).2, _, _, _, rfl⟩
          have hcond : (byd && decide (0 < r')) = false := by
            cases byd with
            | false => rfl
            | true => simp only [Bool.true_and, decide_eq_false_iff_not]; exact fun q => hc ⟨rfl, q⟩
          have hcv : tAnd (tTru (eVar 3)) (tB (e2 gGt (eVar 2) (eC (.int 0)))) [cD (.lst (ns.map Dt.int)), cI n, cI r', cB byd, cO (xs.map Dt.int), cI (0 + i), v6] = some (.ok false) := by
            cases byd with
            | false => simp [gMul_eq, gDiv_eq, gMod_eq, eVar]
            | true =>
              have : decide (0 < r') = false := by simpa using hcond
              simp [gMul_eq, gDiv_eq, gMod_eq, eVar, this]
          show sIf _ _ _ [cD (.lst (ns.map Dt.int)), cI n, cI r', cB byd, cO (xs.map Dt.int), cI (0 + i), v6] = _
          rw [sIf_eq, hcv, bndS_ok, if_neg (by decide)]
          have assoc : ∀ (F G H : FS) (ρ ρ' : PEnv), sSeq F G ρ = some (.nx ρ') → sSeq F (sSeq G H) ρ = H ρ' := fun F G H ρ ρ' h => by
            unfold sSeq at h ⊢
            cases hF : F ρ with
            | none => rw [hF] at h; cases h
            | some o =>
              rw [hF] at h
              cases o <;> first | (cases h; done) | (simp only at h ⊢; rw [h])
          rw [assoc _ _ _ _ _ ez]
          rw [sApp_eq (ds := xs.map Dt.int) (d := .int ((((z * 48271).fmod 2147483647 * 69621).fmod 2147483629).fmod 1000000)) rfl (by simp [gMul_eq, gDiv_eq, gMod_eq, eVar, k1, k2, modOk6, modOk47, modOk29]) hlen]
          simp)
    exact ⟨xs, h1, h2, r', v5, v6, e⟩
  have hn1 : rOk (n : Int) = true := rOk_of (by omega) (by omega)
  have rest : ∃ r : Int, sIf (tB (e2 gGt (e1 gLen (eVar 0)) (eC (.int 0)))) (sSet 2 (e2 gIx (eVar 0) (eC (.int 0)))) sNext [cD (.lst (ns.map Dt.int)), cI n, cI 0, none, none, none, none] = some (.nx [cD (.lst (ns.map Dt.int)), cI n, cI r, none, none, none, none]) := by
    cases ns with
    | nil => exact ⟨0, by simp [gMul_eq, gDiv_eq, gMod_eq, eVar]⟩
    | cons z zs =>
      refine ⟨z, ?_⟩
      have e3 : atI (Dt.int z :: zs.map Dt.int) 0 = some (.int z) := atI_nat (by decide) rfl
      have e4 : (0 : Int) < zs.length + 1 := by omega
      simp [gMul_eq, gDiv_eq, gMod_eq, eVar, e3, e4]
  obtain ⟨r, er⟩ := rest
  have eb : ∃ b : Bool, sSet 3 (e2 gGe (eVar 2) (e2 gPow (eC (.int 10)) (eC (.int 18)))) [cD (.lst (ns.map Dt.int)), cI n, cI r, none, none, none, none] = some (.nx [cD (.lst (ns.map Dt.int)), cI n, cI r, cB b, none, none, none]) := ⟨decide ((1000000000000000000 : Int) ≤ r), by simp [gMul_eq, gDiv_eq, gMod_eq, eVar]⟩
  obtain ⟨byd, eb⟩ := eb
  obtain ⟨xs, h1, h2, r', v5, v6, eL⟩ := loop r byd
  refine ⟨xs, h1, h2, ?_⟩
  rw [fnD_run (np := 2) rfl]
  unfold b_nums
  show outR (sSeq _ _ [cD (.lst (ns.map Dt.int)), cI n, none, none, none, none, none]) = _
  rw [sSeq_nx (ρ' := [cD (.lst (ns.map Dt.int)), cI n, cI 0, none, none, none, none]) (by simp), sSeq_nx er,
    sSeq_nx eb,
    sSeq_nx (ρ' := [cD (.lst (ns.map Dt.int)), cI n, cI r, cB byd, cO [], none, none]) (by simp),
    sSeq_nx (ρ' := [cD (.lst (ns.map Dt.int)), cI n, cI r', cB byd, cO (xs.map Dt.int), v5, v6]) (by
      rw [for_run (rng1_run (n := (n : Int)) (by simp [gMul_eq, gDiv_eq, gMod_eq, eVar]) hn1), Int.toNat_natCast]
      exact eL)]
  rfl
end Pd

set_option maxHeartbeats 2000000
/-! PdQ: sizes by instances, runs by simp. -/
namespace Pd
open PySem PySem.Spec L2
/-! ### sizes -/
class Sm (x : Int) (n : outParam Nat) : Prop where
  lt : x.natAbs < 2 ^ n
  pos : 0 < n
theorem Sm.of {x : Int} {n : Nat} (h : x.natAbs < 2 ^ n) (p : 0 < n) : Sm x n := ⟨h, p⟩
instance Sm.mul {x y : Int} {a b : Nat} [h : Sm x a] [k : Sm y b] : Sm (x * y) (a + b) := ⟨by
  rw [Int.natAbs_mul, Nat.pow_add]
  exact Nat.mul_lt_mul'' h.lt k.lt, Nat.add_pos_left h.pos b⟩
theorem pow_max {A B : Nat} (a b : Nat) (hA : A < 2 ^ a) (hB : B < 2 ^ b) : A + B < 2 ^ (a + b + 1) := by
  have h1 : 2 ^ a ≤ 2 ^ (a + b) := Nat.pow_le_pow_right (by decide) (by omega)
  have h2 : 2 ^ b ≤ 2 ^ (a + b) := Nat.pow_le_pow_right (by decide) (by omega)
  rw [Nat.pow_succ]
  generalize 2 ^ (a + b) = C at *
  omega
instance Sm.add {x y : Int} {a b : Nat} [h : Sm x a] [k : Sm y b] : Sm (x + y) (a + b + 1) := ⟨Nat.lt_of_le_of_lt (Int.natAbs_add_le x y) (pow_max a b h.lt k.lt), Nat.succ_pos _⟩
instance Sm.neg {x : Int} {a : Nat} [h : Sm x a] : Sm (-x) a := ⟨by rw [Int.natAbs_neg]; exact h.lt, h.pos⟩
instance Sm.sub {x y : Int} {a b : Nat} [h : Sm x a] [k : Sm y b] : Sm (x - y) (a + b + 1) := by
  rw [Int.sub_eq_add_neg]
  exact Sm.add
instance (priority := low) Sm.lit {n : Nat} : Sm (no_index (OfNat.ofNat n : Int)) (n.log2 + 1) := ⟨by
  show n < 2 ^ (n.log2 + 1)
  exact Nat.lt_log2_self, Nat.succ_pos _⟩
theorem gMul_sm {i j : Int} {a b : Nat} [h : Sm i a] [k : Sm j b] (l : a + b ≤ 100000000) : gMul (.fro (.int i)) (.fro (.int j)) = vI (i * j) := by
  rw [gMul_eq, mulOk_of a b h.lt k.lt l h.pos k.pos]
  rfl
theorem divOk_sm {i j : Int} {b : Nat} [k : Sm j b] (h0 : j ≠ 0) (l : b ≤ 9000) : divOk i j = true := divOk_ne h0
theorem gDiv_sm {i j : Int} {b : Nat} [k : Sm j b] (h0 : j ≠ 0) (l : b ≤ 9000) : gDiv (.fro (.int i)) (.fro (.int j)) = vI (i.fdiv j) := by
  rw [gDiv_eq, divOk_sm h0 l]
  rfl
theorem gMod_nz {i j : Int} (h0 : j ≠ 0) : gMod (.fro (.int i)) (.fro (.int j)) = vI (i.fmod j) := by
  rw [gMod_eq, modOk_of h0]
  rfl
theorem sm_range {x : Int} {n : Nat} (lo hi : Int) (h1 : lo ≤ x) (h2 : x ≤ hi) (hl : (-(2 ^ n : Nat) : Int) < lo) (hh : hi < (2 ^ n : Nat)) (p : 0 < n) : Sm x n := ⟨by omega, p⟩
/-! ### more runs -/
/-- what stands behind a statement -/
def nxt (o : Option Out) (G : FS) : Option Out := match o with
  | some (.nx ρ) => G ρ
  | o => o
theorem sSeq_nxt (F G : FS) (ρ : PEnv) : sSeq F G ρ = nxt (F ρ) G := rfl
theorem nxt_nx (ρ : PEnv) (G : FS) : nxt (some (.nx ρ)) G = G ρ := rfl
theorem nxt_rt (r : Rs) (G : FS) : nxt (some (.rt r)) G = some (.rt r) := rfl
theorem nxt_xc (c : Nat) (es : List Dt) (ρ : PEnv) (G : FS) : nxt (some (.xc c es ρ)) G = some (.xc c es ρ) := rfl
theorem sRaise_eq (c : Nat) (ρ : PEnv) : sRaise c ρ = some (.xc c [] ρ) := rfl
theorem sRet_fro {f : FE} {ρ : PEnv} {d : Dt} (h : f ρ = some (.ok (.fro d))) : sRet f ρ = some (.rt (.fro d)) := by
  unfold sRet
  rw [h]
  rfl
theorem sRet_ex {f : FE} {ρ : PEnv} {c : Nat} {es : List Dt} (h : f ρ = some (.ex c es)) : sRet f ρ = some (.xc c es ρ) := by
  unfold sRet
  rw [h]
  rfl
theorem sIf_t {t : FT} {F G : FS} {ρ : PEnv} (h : t ρ = some (.ok true)) : sIf t F G ρ = F ρ := by
  rw [sIf_eq, h]
  rfl
theorem sIf_f {t : FT} {F G : FS} {ρ : PEnv} (h : t ρ = some (.ok false)) : sIf t F G ρ = G ρ := by
  rw [sIf_eq, h]
  rfl
theorem sSet_run {n : Nat} {f : FE} {ρ : PEnv} {r : Rs} {c : Cel} (h : f ρ = some (.ok r)) (hc : celOf r = some c := by rfl) : sSet n f ρ = some (.nx (ρ.set n (some c))) := by
  rw [sSet_eq, h, bndS_ok, hc]
section
variable (i j : Int) (c : Nat) (ds as : List Dt) (d : Dt) (ρ : PEnv)
theorem gFld_tbl {m : Nat → Option Nat} {k : Nat} {e : Dt} (h1 : m c = some k) (h2 : ds[k]? = some e) : gFld m (.fro (.ins c ds)) = some (.ok (.fro e)) := by
  unfold gFld
  simp only [h1, h2]
theorem gAbs_eq : gAbs (.fro (.int i)) = vI (if i < 0 then -i else i) := rfl
theorem gInt_eq : gInt (.fro (.int i)) = vI i := rfl
theorem gGcd_eq : gGcd (.fro (.int i)) (.fro (.int j)) = vI (Int.gcd i j) := rfl
theorem isi_int : gIsi (ansB "int" []) (.fro (.int i)) = vB true := rfl
theorem isi_bool : gIsi (ansB "bool" []) (.fro (.int i)) = vB false := rfl
theorem gIsi_C {ns : List String} {cs : List (Nat × Bool)} {b : Bool} (h : cs.lookup c = some b) : gIsi (ansC ns cs) (.fro (.ins c ds)) = vB b := by
  unfold gIsi
  show (match ansC ns cs (.own c) with | some b => vB b | none => none) = _
  rw [show ansC ns cs (.own c) = some b from h]
theorem gOwn_int {g : G2} {okD : Nat → Dt → Bool} {ops : Nat → Option Fn} (y : Rs) : gOwn g okD ops (.fro (.int i)) y = g (.fro (.int i)) y := rfl
theorem gOwn_ins {g : G2} {okD : Nat → Dt → Bool} {ops : Nat → Option Fn} {fn : Fn} {r : Rs} (h1 : ops c = some fn) (h2 : okD c d = true) (h3 : fn [.ins c ds, d] = some (.ok r)) : gOwn g okD ops (.fro (.ins c ds)) (.fro d) = some (.ok r) := by
  unfold gOwn
  simp only [h1, h2, h3, if_true]
  rfl
theorem gOwn1_ins {g : G1} {ops : Nat → Option Fn} {fn : Fn} {r : Rs} (h1 : ops c = some fn) (h3 : fn [.ins c ds] = some (.ok r)) : gOwn1 g ops (.fro (.ins c ds)) = some (.ok r) := by
  unfold gOwn1
  simp only [h1, h3]
  rfl
end
/-! ### while -/
theorem while_end {t : FT} {body : FS} {ρ : PEnv} (h : t ρ = some (.ok false)) : whileD t body 1 ρ = some (.nx ρ) := by
  unfold whileD
  rw [h]
  rfl
theorem while_step {t : FT} {body : FS} {ρ ρ2 : PEnv} {o : Out} {m : Nat} (h : t ρ = some (.ok true)) (hb : body ρ = some (.nx ρ2)) (r : whileD t body m ρ2 = some o) : whileD t body (m + 1) ρ = some o := by
  unfold whileD
  rw [h, bndS_ok, if_pos rfl, hb]
  exact r
/-- a loop whose invariant's measure falls -/
theorem while_inv {t : FT} {body : FS} (I : Nat → PEnv → Prop) : ∀ (n : Nat) (ρ : PEnv), I n ρ → (∀ n ρ, I n ρ → t ρ = some (.ok false) ∨ (t ρ = some (.ok true) ∧ ∃ ρ2 k, k < n ∧ body ρ = some (.nx ρ2) ∧ I k ρ2)) →
    ∃ ρ' k, sWhile t body ρ = some (.nx ρ') ∧ I k ρ' ∧ t ρ' = some (.ok false) := by
  have go : (∀ n ρ, I n ρ → t ρ = some (.ok false) ∨ (t ρ = some (.ok true) ∧ ∃ ρ2 k, k < n ∧ body ρ = some (.nx ρ2) ∧ I k ρ2)) → ∀ (n : Nat) (ρ : PEnv), I n ρ → ∃ m ρ' k, whileD t body m ρ = some (.nx ρ') ∧ I k ρ' ∧ t ρ' = some (.ok false) := by
    intro st n
    induction n using Nat.strongRecOn with
    | ind n ih =>
      intro ρ h
      rcases st n ρ h with e | ⟨e, ρ2, k, hk, hb, h2⟩
      · exact ⟨1, ρ, n, while_end e, h, e⟩
      · obtain ⟨m, ρ', k', r, a, b⟩ := ih k hk ρ2 h2
        exact ⟨m + 1, ρ', k', while_step e hb r, a, b⟩
  intro n ρ h st
  obtain ⟨m, ρ', k, r, a, b⟩ := go st n ρ h
  exact ⟨ρ', k, sWhile_of r, a, b⟩
end Pd


set_option maxHeartbeats 2000000
/-! QvA: typed readings of the plain functions: values, conditions, outcomes. -/
namespace Pd
open PySem PySem.Spec L2
abbrev EV (f : FE) (ρ : PEnv) (r : Rs) : Prop := f ρ = some (.ok r)
abbrev TV (t : FT) (ρ : PEnv) (b : Bool) : Prop := t ρ = some (.ok b)
abbrev AV (a : FA) (ρ : PEnv) (ds : List Dt) : Prop := a ρ = some (.ok ds)
abbrev IV (g : FIt) (ρ : PEnv) (ds : List Dt) : Prop := g ρ = some (.ok ds)
abbrev OV (o : FO) (ρ : PEnv) (i : Option Int) : Prop := o ρ = some (.ok i)
/-! ### lists by kind -/
inductive Kd where
  | own | bor | fro
def kR : Kd → List Dt → Rs
  | .own, ds => .own ds
  | .bor, ds => .bor ds
  | .fro, ds => .fro (.lst ds)
def kC : Kd → List Dt → Cel
  | .own, ds => .own ds
  | .bor, ds => .own ds
  | .fro, ds => .fro (.lst ds)
def kV : Kd → Kd
  | .own => .bor
  | .bor => .bor
  | .fro => .fro
theorem kR_asL (k : Kd) (ds : List Dt) : asL (kR k ds) = some ds := by cases k <;> rfl
/-! ### encodings -/
abbrev qI (i : Int) : Dt := .int i
abbrev qB (b : Bool) : Dt := .bl b
abbrev qS (s : Str) : Dt := .str s
abbrev qN (_ : Unit) : Dt := .non
abbrev qD (d : Dt) : Dt := d
section
variable {α β γ δ : Type}
abbrev qL (e : α → Dt) (xs : List α) : Dt := .lst (xs.map e)
abbrev qV (e : α → Dt) (xs : List α) : Dt := .tup (xs.map e)
def qO (e : α → Dt) : Option α → Dt
  | none => .non
  | some a => e a
abbrev qT1 (e : α → Dt) (p : α) : Dt := .tup [e p]
abbrev qT2 (e : α → Dt) (f : β → Dt) (p : α × β) : Dt := .tup [e p.1, f p.2]
abbrev qT3 (e : α → Dt) (f : β → Dt) (g : γ → Dt) (p : α × β × γ) : Dt := .tup [e p.1, f p.2.1, g p.2.2]
abbrev qT4 (e : α → Dt) (f : β → Dt) (g : γ → Dt) (h : δ → Dt) (p : α × β × γ × δ) : Dt := .tup [e p.1, f p.2.1, g p.2.2.1, h p.2.2.2]
end
/-! ### typed operations -/
section
variable {α β : Type}
/-- the item at i -/
def gt [Inhabited α] (xs : List α) (i : Int) : α := (atI xs i).getD default
def inR (xs : List α) (i : Int) : Prop := -(xs.length : Int) ≤ i ∧ i < xs.length
def cutT (xs : List α) (lo hi : Option Int) : List α := (xs.drop (HT.sIx xs.length 0 lo)).take (HT.sIx xs.length xs.length hi - HT.sIx xs.length 0 lo)
def setT (xs : List α) (i : Int) (x : α) : List α := match ixN xs.length i with
  | some j => xs.set j x
  | none => xs
def repT (xs : List α) (n : Int) : List α := (List.replicate n.toNat xs).flatten
def rngN (a : Int) : Nat → List Int
  | 0 => []
  | n + 1 => a :: rngN (a + 1) n
abbrev rngT (a b : Int) : List Int := rngN a (b - a).toNat
def rngD (a : Int) : Nat → List Int
  | 0 => []
  | n + 1 => a :: rngD (a + -1) n
abbrev rngDT (a b : Int) : List Int := rngD a (a - b).toNat
theorem rngN_map (a : Int) (n : Nat) : (rngN a n).map qI = intsFrom a n := by
  induction n generalizing a with
  | zero => rfl
  | succ n ih => show _ :: _ = _ :: _; rw [ih]
theorem rngD_map (a : Int) (n : Nat) : (rngD a n).map qI = intsBy a (-1) n := by
  induction n generalizing a with
  | zero => rfl
  | succ n ih => show _ :: _ = _ :: _; rw [ih]
theorem inR_ix {xs : List α} {i : Int} (h : inR xs i) : ∃ j, ixN xs.length i = some j ∧ j < xs.length := by
  unfold inR at h
  unfold ixN
  by_cases h0 : 0 ≤ i
  · rw [if_pos h0, if_pos (by omega)]
    exact ⟨_, rfl, by omega⟩
  · rw [if_neg h0, if_pos (by omega)]
    exact ⟨_, rfl, by omega⟩
theorem at_map [Inhabited α] (e : α → Dt) {xs : List α} {i : Int} (h : inR xs i) : atI (xs.map e) i = some (e (gt xs i)) := by
  obtain ⟨j, h1, h2⟩ := inR_ix h
  unfold gt atI
  rw [List.length_map, h1]
  show (xs.map e)[j]? = some (e ((xs[j]?).getD default))
  rw [List.getElem?_map, List.getElem?_eq_getElem h2]
  rfl
theorem cut_map (e : α → Dt) (xs : List α) (lo hi : Option Int) : cutD (xs.map e) lo hi = (cutT xs lo hi).map e := by
  unfold cutD cutT
  rw [List.length_map, List.map_take, List.map_drop]
theorem rep_map (e : α → Dt) (xs : List α) (n : Int) : (List.replicate n.toNat (xs.map e)).flatten = (repT xs n).map e := by
  unfold repT
  rw [List.map_flatten, List.map_replicate]
end
/-! ### expressions -/
section
variable {f g h : FE} {t u : FT} {ρ : PEnv} {x y z r : Rs} {a b p q : Bool} {i j : Int} {d : Dt} {ds es : List Dt} {n m : Nat} {α β : Type}
theorem ev_c : EV (eC d) ρ (.fro d) := rfl
theorem ev_fro (h : ρ[n]? = some (some (.fro d)) := by rfl) : EV (eVar n) ρ (.fro d) := by unfold EV eVar; rw [h]
theorem ev_own (h : ρ[n]? = some (some (.own ds)) := by rfl) : EV (eVar n) ρ (.bor ds) := by unfold EV eVar; rw [h]
theorem ev_mix {k : Kd} (h : ρ[n]? = some (some (kC k ds)) := by rfl) : EV (eVar n) ρ (kR (kV k) ds) := by unfold EV eVar; rw [h]; cases k <;> rfl
theorem ev_e2 {gg : G2} (hf : EV f ρ x) (hg : EV g ρ y) (hh : gg x y = some (.ok z)) : EV (e2 gg f g) ρ z := by
  show bnd (f ρ) _ = _
  rw [hf, bnd_ok, hg, bnd_ok, hh]
theorem ev_e1 {gg : G1} (hf : EV f ρ x) (hh : gg x = some (.ok z)) : EV (e1 gg f) ρ z := by
  show bnd (f ρ) _ = _
  rw [hf, bnd_ok, hh]
theorem g_mul (hm : mulOk i j = true) : gMul (.fro (.int i)) (.fro (.int j)) = some (.ok (.fro (.int (i * j)))) := by
  rw [gMul_eq, hm]; rfl
theorem g_div (h0 : j ≠ 0) : gDiv (.fro (.int i)) (.fro (.int j)) = some (.ok (.fro (.int (i.fdiv j)))) := by
  rw [gDiv_eq, divOk_ne h0]; rfl
theorem g_mod (hm : j ≠ 0) : gMod (.fro (.int i)) (.fro (.int j)) = some (.ok (.fro (.int (i.fmod j)))) := by
  rw [gMod_eq, modOk_of hm]; rfl
theorem g_pow (hm : powOk i j = true) : gPow (.fro (.int i)) (.fro (.int j)) = some (.ok (.fro (.int (i ^ j.toNat)))) := by
  rw [gPow_eq, hm]; rfl
theorem g_powl {k : Int} (hm : powOk i j = true) (e : i ^ j.toNat = k) : gPow (.fro (.int i)) (.fro (.int j)) = some (.ok (.fro (.int k))) := by
  rw [gPow_eq, hm, e]; rfl
theorem g_max : gMax (.fro (.int i)) (.fro (.int j)) = some (.ok (.fro (.int (max i j)))) := by
  rw [gMax_eq, Int.max_def]
  by_cases h1 : i < j
  · rw [if_pos h1, if_pos (by omega)]
  · rw [if_neg h1]
    by_cases h2 : i ≤ j
    · rw [if_pos h2, show i = j by omega]
    · rw [if_neg h2]
theorem g_min : gMin (.fro (.int i)) (.fro (.int j)) = some (.ok (.fro (.int (min i j)))) := by
  rw [gMin_eq, Int.min_def]
  by_cases h1 : j < i
  · rw [if_pos h1, if_neg (by omega)]
  · rw [if_neg h1, if_pos (by omega)]
theorem g_abs : gAbs (.fro (.int i)) = some (.ok (.fro (.int (i.natAbs : Nat)))) := by
  show some (Ex.ok (Rs.fro (.int (if i < 0 then -i else i)))) = _
  have : (if i < 0 then -i else i) = (i.natAbs : Int) := by split <;> omega
  rw [this]
theorem g_gcd : gGcd (.fro (.int i)) (.fro (.int j)) = some (.ok (.fro (.int (Int.gcd i j : Nat)))) := rfl
theorem g_intB : gInt (.fro (.bl b)) = some (.ok (.fro (.int (if b then 1 else 0)))) := rfl
theorem g_len {k : Kd} {e : α → Dt} {xs : List α} : gLen (kR k (xs.map e)) = some (.ok (.fro (.int xs.length))) := by
  cases k <;> simp [kR]
theorem g_lenV {e : α → Dt} {xs : List α} : gLen (.fro (.tup (xs.map e))) = some (.ok (.fro (.int xs.length))) := by simp
theorem g_list {k : Kd} : gList (kR k ds) = some (.ok (.own ds)) := by cases k <;> rfl
theorem g_tuple {k : Kd} : gTuple (kR k ds) = some (.ok (.fro (.tup ds))) := by cases k <;> rfl
theorem g_ix [Inhabited α] {k : Kd} {e : α → Dt} {xs : List α} (hi : inR xs i) : gIx (kR k (xs.map e)) (.fro (.int i)) = some (.ok (.fro (e (gt xs i)))) := by
  have := at_map e hi
  cases k
  · show (match atI (xs.map e) i with | some d => some (Ex.ok (Rs.fro d)) | none => none) = _
    rw [this]
  · simp [kR, this]
  · simp [kR, this]
theorem g_ixV [Inhabited α] {e : α → Dt} {xs : List α} (hi : inR xs i) : gIx (.fro (.tup (xs.map e))) (.fro (.int i)) = some (.ok (.fro (e (gt xs i)))) := by
  simp [at_map e hi]
theorem g_eqI : gEqS (.fro (.int i)) (.fro (.int j)) = some (.ok (.fro (.bl (decide (i = j))))) := gEqS_int ..
theorem g_neI : gNeS (.fro (.int i)) (.fro (.int j)) = some (.ok (.fro (.bl (!decide (i = j))))) := gNeS_int ..
theorem g_eqB : gEqS (.fro (.bl a)) (.fro (.bl b)) = some (.ok (.fro (.bl (decide (a = b))))) := by unfold gEqS sclD; simp
theorem g_neB : gNeS (.fro (.bl a)) (.fro (.bl b)) = some (.ok (.fro (.bl (!decide (a = b))))) := by unfold gNeS sclD; simp
theorem g_eqS {s t : Str} : gEqS (.fro (.str s)) (.fro (.str t)) = some (.ok (.fro (.bl (decide (s = t))))) := by unfold gEqS sclD; simp
theorem g_neS {s t : Str} : gNeS (.fro (.str s)) (.fro (.str t)) = some (.ok (.fro (.bl (!decide (s = t))))) := by unfold gNeS sclD; simp
theorem g_cat {k l : Kd} {e : α → Dt} {xs ys : List α} (h : xs.length + ys.length ≤ LINE) : gCat (kR k (xs.map e)) (kR l (ys.map e)) = some (.ok (.own ((xs ++ ys).map e))) := by
  unfold gCat
  rw [kR_asL, kR_asL]
  dsimp only
  rw [if_pos (by rw [List.length_map, List.length_map]; exact h), List.map_append]
theorem g_rep {k : Kd} {e : α → Dt} {xs : List α} (hk : k ≠ .fro) (h1 : i < 2 ^ 62 ∧ -(2 ^ 62) ≤ i) (h : xs.length * i.toNat ≤ LINE) : gRep (kR k (xs.map e)) (.fro (.int i)) = some (.ok (.own ((repT xs i).map e))) := by
  rw [← rep_map]
  cases k <;> first | exact absurd rfl hk | skip
  all_goals (unfold gRep kR asO; dsimp only; rw [if_pos ⟨h1.1, h1.2, by rw [List.length_map]; exact h⟩])
theorem g_isN {e : α → Dt} {o : Option α} (he : ∀ a, isNon (e a) = false) : gIsN (.fro (qO e o)) (.fro .non) = some (.ok (.fro (.bl o.isNone))) := by
  cases o with
  | none => rfl
  | some a => show vB (isNon (e a)) = _; rw [he]; rfl
theorem g_notN {e : α → Dt} {o : Option α} (he : ∀ a, isNon (e a) = false) : gNotN (.fro (qO e o)) (.fro .non) = some (.ok (.fro (.bl o.isSome))) := by
  cases o with
  | none => rfl
  | some a => show vB (!isNon (e a)) = _; rw [he]; rfl
theorem tr_k {k : Kd} {e : α → Dt} {xs : List α} : tru (kR k (xs.map e)) = some (.ok (!xs.isEmpty)) := by
  cases k <;> cases xs <;> rfl
theorem tv_b (hf : EV f ρ (.fro (.bl b))) : TV (tB f) ρ b := by
  show bnd (f ρ) _ = _
  rw [hf]; rfl
theorem tv_tru (hf : EV f ρ r) (hh : tru r = some (.ok b)) : TV (tTru f) ρ b := by
  show bnd (f ρ) _ = _
  rw [hf, bnd_ok, hh]
theorem tv_not (ht : TV t ρ a) : TV (tNot t) ρ (!a) := by
  show bnd (t ρ) _ = _
  rw [ht]; rfl
theorem tv_and (ht : TV t ρ a) (hu : a = true → TV u ρ b) : TV (tAnd t u) ρ (a && b) := by
  show bnd (t ρ) _ = _
  rw [ht, bnd_ok]
  cases a with
  | true => rw [if_pos rfl, hu rfl]; rfl
  | false => rfl
theorem tv_or (ht : TV t ρ a) (hu : a = false → TV u ρ b) : TV (tOr t u) ρ (a || b) := by
  show bnd (t ρ) _ = _
  rw [ht, bnd_ok]
  cases a with
  | true => rfl
  | false => rw [if_neg Bool.false_ne_true, hu rfl]; rfl
theorem ev_and (hf : EV f ρ (.fro (.bl a))) (hg : a = true → EV g ρ (.fro (.bl b))) : EV (eAnd f g) ρ (.fro (.bl (a && b))) := by
  show bnd (f ρ) _ = _
  rw [hf, bnd_ok, asB_bl, bnd_ok]
  cases a with
  | true => rw [if_pos rfl, hg rfl]; rfl
  | false => rfl
theorem ev_or (hf : EV f ρ (.fro (.bl a))) (hg : a = false → EV g ρ (.fro (.bl b))) : EV (eOr f g) ρ (.fro (.bl (a || b))) := by
  show bnd (f ρ) _ = _
  rw [hf, bnd_ok, asB_bl, bnd_ok]
  cases a with
  | true => rfl
  | false => rw [if_neg Bool.false_ne_true, hg rfl]; rfl
theorem ev_not (hf : EV f ρ (.fro (.bl a))) : EV (eNot f) ρ (.fro (.bl (!a))) := by
  show bnd (f ρ) _ = _
  rw [hf]; rfl
theorem ev_if {e : α → Dt} {v w : α} (ht : TV t ρ b) (hf : b = true → EV f ρ (.fro (e v))) (hg : b = false → EV g ρ (.fro (e w))) : EV (eIf t f g) ρ (.fro (e (if b then v else w))) := by
  show bnd (t ρ) _ = _
  rw [ht, bnd_ok]
  cases b with
  | true => exact hf rfl
  | false => exact hg rfl
theorem ev_ifk {k : Kd} {e : α → Dt} {v w : List α} (ht : TV t ρ b) (hf : b = true → EV f ρ (kR k (v.map e))) (hg : b = false → EV g ρ (kR k (w.map e))) : EV (eIf t f g) ρ (kR k ((if b then v else w).map e)) := by
  show bnd (t ρ) _ = _
  rw [ht, bnd_ok]
  cases b with
  | true => exact hf rfl
  | false => exact hg rfl
theorem ev_chain {gg gg' : G2} (hf : EV f ρ x) (hg : EV g ρ y) (h1 : gg x y = vB p) (hh : p = true → EV h ρ z) (h2 : gg' y z = vB q) : EV (eChain gg gg' f g h) ρ (.fro (.bl (p && q))) := by
  show bnd (f ρ) _ = _
  rw [hf, bnd_ok, hg, bnd_ok, h1, bnd_ok, asB_bl, bnd_ok]
  cases p with
  | true => rw [if_pos rfl, hh rfl, bnd_ok, h2]; rfl
  | false => rfl
theorem av_nil : AV aNil ρ [] := rfl
theorem av_cons {fs : FA} (hf : EV f ρ r) (hz : frz r = some (.ok d)) (ht : AV fs ρ ds) : AV (aCons f fs) ρ (d :: ds) := by
  show bnd (f ρ) _ = _
  rw [hf, bnd_ok, hz, bnd_ok, ht]; rfl
theorem fz_k {k : Kd} (hk : k ≠ .bor) : frz (kR k ds) = some (.ok (.lst ds)) := by cases k <;> first | rfl | exact absurd rfl hk
theorem ev_call {fn : Fn} {fa : FA} (hF : fn ds = some (.ok r)) (ha : AV fa ρ ds) (hl : ds.length = n := by rfl) : EV (eCa n fn fa) ρ r := (eCa_run ha hl).trans hF
theorem ev_meth {o : Dt} {c : Nat} {fn : Fn} {gD : List Dt → List Dt} {ms : Nat → Option Fn} {fo : FE} {fa : FA} (hF : fn (gD (o :: es)) = some (.ok r)) (ho : EV fo ρ (.fro o)) (ha : AV fa ρ es) (hx : o = .ins c ds) (hm : ms c = some (mfn n gD fn)) (hl : es.length + 1 = n) : EV (eMe ms fo fa) ρ r := by
  subst hx
  show bnd (fo ρ) _ = _
  have hp : pickM ms (.fro (.ins c ds)) = some (c, ds, mfn n gD fn) := by
    unfold pickM; dsimp only; rw [hm]
  rw [ho, bnd_ok, hp]
  show bnd (fa ρ) _ = _
  rw [ha, bnd_ok]
  unfold mfn
  rw [if_pos (by rw [List.length_cons]; exact hl), hF]
theorem g_fld {c k : Nat} {mm : Nat → Option Nat} (h1 : mm c = some k) (h2 : ds[k]? = some d) : gFld mm (.fro (.ins c ds)) = some (.ok (.fro d)) := by
  unfold gFld; dsimp only; rw [h1]; dsimp only; rw [h2]
theorem g_attF {c k : Nat} {mm : Nat → Option Nat} {pr : Nat → Option Fn} (h1 : mm c = some k) (h2 : ds[k]? = some d) : gAtt mm pr (.fro (.ins c ds)) = some (.ok (.fro d)) := by
  unfold gAtt; dsimp only; rw [h1]; dsimp only; rw [h2]
theorem g_attP {x : Dt} {c : Nat} {mm : Nat → Option Nat} {pr : Nat → Option Fn} {fn : Fn} (hF : fn [x] = some (.ok r)) (hx : x = .ins c ds) (h1 : mm c = none) (h2 : pr c = some fn) : gAtt mm pr (.fro x) = some (.ok r) := by
  subst hx
  unfold gAtt; dsimp only; rw [h1]; dsimp only; rw [h2]; dsimp only; rw [hF]; rfl
theorem g_own {x d : Dt} {c : Nat} {gg : G2} {okD : Nat → Dt → Bool} {ops : Nat → Option Fn} {fn : Fn} (hF : fn [x, d] = some (.ok r)) (hx : x = .ins c ds) (h1 : ops c = some (mfn 2 (fun ds => ds) fn)) (h2 : okD c d = true) : gOwn gg okD ops (.fro x) (.fro d) = some (.ok r) := by
  subst hx
  unfold gOwn; dsimp only; rw [h1]; dsimp only; rw [h2, if_pos rfl]; unfold mfn; show okR (fn [.ins c ds, d]) = _; rw [hF]; rfl
theorem g_own1 {x : Dt} {c : Nat} {gg : G1} {ops : Nat → Option Fn} {fn : Fn} (hF : fn [x] = some (.ok r)) (hx : x = .ins c ds) (h1 : ops c = some (mfn 1 (fun ds => ds) fn)) : gOwn1 gg ops (.fro x) = some (.ok r) := by
  subst hx
  unfold gOwn1; dsimp only; rw [h1]; dsimp only; unfold mfn; show okR (fn [.ins c ds]) = _; rw [hF]; rfl
theorem ev_tup {fs : FA} (ha : AV fs ρ ds) (hl : ds.length ≤ LINE := by decide) : EV (eTup fs) ρ (.fro (.tup ds)) := by
  show bnd (fs ρ) _ = _
  rw [ha, bnd_ok, if_pos hl]
theorem ev_lst {fs : FA} (ha : AV fs ρ ds) (hl : ds.length ≤ LINE := by decide) : EV (eLst fs) ρ (.own ds) := by
  show bnd (fs ρ) _ = _
  rw [ha, bnd_ok, if_pos hl]
theorem ov_none : OV oNone ρ none := rfl
theorem ov_some (hf : EV f ρ (.fro (.int i))) : OV (oSome f) ρ (some i) := by
  show bnd (f ρ) _ = _
  rw [hf]; rfl
theorem ev_sl {k : Kd} {e : α → Dt} {xs : List α} {lo hi : FO} {l m : Option Int} (hf : EV f ρ (kR k (xs.map e))) (h1 : OV lo ρ l) (h2 : OV hi ρ m) : EV (eSl f lo hi) ρ (.own ((cutT xs l m).map e)) := by
  show bnd (f ρ) _ = _
  rw [hf, bnd_ok, h1, bnd_ok, h2, bnd_ok, ← cut_map]
  cases k <;> rfl
/-! ### what is walked -/
theorem iv_k {k : Kd} (hf : EV f ρ (kR k ds)) (hk : k ≠ .bor) : IV (iSeq f) ρ ds := by
  show bnd (f ρ) _ = _
  rw [hf, bnd_ok, fz_k hk]; rfl
theorem iv_v (hf : EV f ρ (.fro (.tup ds))) : IV (iSeq f) ρ ds := by
  show bnd (f ρ) _ = _
  rw [hf]; rfl
theorem iv_r1 (hf : EV f ρ (.fro (.int i))) (hr : rOk i = true) : IV (iRng1 f) ρ ((rngT 0 i).map qI) := by
  rw [rngN_map]
  have := rng1_run hf hr
  rw [show (i - 0) = i by omega]
  exact this
theorem iv_r2 (hf : EV f ρ (.fro (.int i))) (hg : EV g ρ (.fro (.int j))) (hr : rOk i = true) (hs : rOk j = true) : IV (iRng2 f g) ρ ((rngT i j).map qI) := by
  rw [rngN_map]
  exact rng2_run hf hg hr hs
theorem iv_rD (hf : EV f ρ (.fro (.int i))) (hg : EV g ρ (.fro (.int j))) (hr : rOk i = true) (hs : rOk j = true) : IV (iRngD f g) ρ ((rngDT i j).map qI) := by
  rw [rngD_map]
  exact rngD_run hf hg hr hs
theorem iv_revK {k : Kd} {e : α → Dt} {xs : List α} (hf : EV f ρ (kR k (xs.map e))) (hk : k ≠ .bor) : IV (iRevS f) ρ (xs.reverse.map e) := by
  show bnd (f ρ) _ = _
  rw [hf, bnd_ok, fz_k hk, bnd_ok, List.map_reverse]; rfl
theorem iv_revV {e : α → Dt} {xs : List α} (hf : EV f ρ (.fro (.tup (xs.map e)))) : IV (iRevS f) ρ (xs.reverse.map e) := by
  show bnd (f ρ) _ = _
  rw [hf, bnd_ok, frz_fro, bnd_ok, List.map_reverse]; rfl
theorem lcD_map' {ρ : PEnv} {gg : GT} {ct : FT} {elt : FE} {e : α → Dt} {e' : β → Dt} {pp : α → Bool} {F : α → β} : ∀ {xs : List α}, (∀ v, v ∈ xs → ∃ ρ1, gg (e v) ρ = some ρ1 ∧ TV ct ρ1 (pp v) ∧ (pp v = true → ∃ w, EV elt ρ1 w ∧ frz w = some (.ok (e' (F v))))) → lcD gg ct elt ρ (xs.map e) = some (((xs.filter pp).map F).map e')
  | [], _ => rfl
  | v :: xs, hh => by
    obtain ⟨ρ1, h1, h2, h3⟩ := hh v List.mem_cons_self
    have ih := lcD_map' (gg := gg) (ct := ct) (elt := elt) (e := e) (e' := e') (pp := pp) (F := F) (ρ := ρ) (xs := xs) fun w hw => hh w (List.mem_cons_of_mem _ hw)
    rw [List.map_cons]
    unfold lcD
    rw [h1]
    dsimp only
    rw [h2]
    cases hp : pp v with
    | true =>
      obtain ⟨w, h4, h5⟩ := h3 hp
      dsimp only
      rw [h4, bnd_ok, h5]
      dsimp only
      rw [ih, List.filter_cons_of_pos hp]
      rfl
    | false =>
      dsimp only
      rw [List.filter_cons_of_neg (by rw [hp]; exact Bool.false_ne_true)]
      exact ih
theorem ev_lcf {vs : List Nat} {it : FIt} {gg : GT} {ct : FT} {elt : FE} {e : α → Dt} {e' : β → Dt} {pp : α → Bool} {F : α → β} {xs : List α} (hg : IV it ρ (xs.map e)) (hl : xs.length ≤ LINE)
    (hh : ∀ v, v ∈ xs → ∃ ρ1, gg (e v) (wipeE ρ vs) = some ρ1 ∧ TV ct ρ1 (pp v) ∧ (pp v = true → ∃ w, EV elt ρ1 w ∧ frz w = some (.ok (e' (F v))))) : EV (eLc vs it gg ct elt) ρ (.own (((xs.filter pp).map F).map e')) := by
  show bnd (it ρ) _ = _
  rw [hg, bnd_ok, lcD_map' hh]
  exact if_pos (by rw [List.length_map]; exact hl)
theorem ev_lc {vs : List Nat} {it : FIt} {gg : GT} {elt : FE} {e : α → Dt} {e' : β → Dt} {F : α → β} {xs : List α} (hg : IV it ρ (xs.map e)) (hl : xs.length ≤ LINE)
    (hh : ∀ v, v ∈ xs → ∃ ρ1 w, gg (e v) (wipeE ρ vs) = some ρ1 ∧ EV elt ρ1 w ∧ frz w = some (.ok (e' (F v)))) : EV (eLc vs it gg tTrue elt) ρ (.own ((xs.map F).map e')) := by
  have := ev_lcf (pp := fun _ => true) (ct := tTrue) (vs := vs) (it := it) (gg := gg) (elt := elt) (e' := e') (F := F) hg hl fun v hv => by
    obtain ⟨ρ1, w, h1, h2, h3⟩ := hh v hv
    exact ⟨ρ1, h1, rfl, fun _ => ⟨w, h2, h3⟩⟩
  rwa [List.filter_eq_self.mpr fun _ _ => rfl] at this
end
/-! ### outcomes -/
inductive Fl (σ τ β : Type) where
  | nx (s : σ) | bk (s : τ) | ct (s : τ) | rt (r : β)
section
variable {σ τ σ' β : Type}
def RtOk (o : Option Out) (R : β → Rs → Prop) (q : β) : Prop := ∃ x, o = some (.rt x) ∧ R q x
def NxOk (o : Option Out) (E : σ → PEnv → Prop) (q : σ) : Prop := ∃ ρ', o = some (.nx ρ') ∧ E q ρ'
def FlOk (o : Option Out) (E : σ → PEnv → Prop) (B : τ → PEnv → Prop) (R : β → Rs → Prop) : Fl σ τ β → Prop
  | .nx s => ∃ ρ', o = some (.nx ρ') ∧ E s ρ'
  | .bk s => ∃ ρ', o = some (.bk ρ') ∧ B s ρ'
  | .ct s => ∃ ρ', o = some (.ct ρ') ∧ B s ρ'
  | .rt r => ∃ x, o = some (.rt x) ∧ R r x
def Fl.fin (q : Fl σ Empty β) (k : σ → β) : β := match q with
  | .nx s => k s
  | .rt r => r
def Fl.bind (q : Fl σ τ β) (k : σ → Fl σ' τ β) : Fl σ' τ β := match q with
  | .nx s => k s
  | .bk s => .bk s
  | .ct s => .ct s
  | .rt r => .rt r
@[simp] theorem Fl.fin_nx (s : σ) (k : σ → β) : (Fl.nx s : Fl σ Empty β).fin k = k s := rfl
@[simp] theorem Fl.fin_rt (r : β) (k : σ → β) : (Fl.rt r : Fl σ Empty β).fin k = r := rfl
@[simp] theorem Fl.bind_nx (s : σ) (k : σ → Fl σ' τ β) : (Fl.nx s).bind k = k s := rfl
@[simp] theorem Fl.bind_bk (s : τ) (k : σ → Fl σ' τ β) : (Fl.bk s : Fl σ τ β).bind k = .bk s := rfl
@[simp] theorem Fl.bind_ct (s : τ) (k : σ → Fl σ' τ β) : (Fl.ct s : Fl σ τ β).bind k = .ct s := rfl
@[simp] theorem Fl.bind_rt (r : β) (k : σ → Fl σ' τ β) : (Fl.rt r : Fl σ τ β).bind k = .rt r := rfl
variable {o o' : Option Out} {E : σ → PEnv → Prop} {E' : σ' → PEnv → Prop} {B : τ → PEnv → Prop} {R : β → Rs → Prop} {F G H : FS} {ρ ρ' : PEnv} {t : FT} {b : Bool}
theorem RtOk.of {q : β} (e : o = o') (h : RtOk o' R q) : RtOk o R q := e ▸ h
theorem NxOk.of {q : σ} (e : o = o') (h : NxOk o' E q) : NxOk o E q := e ▸ h
theorem FlOk.of {q : Fl σ τ β} (e : o = o') (h : FlOk o' E B R q) : FlOk o E B R q := e ▸ h
theorem NxOk.fl {q : σ} (h : NxOk o E q) : FlOk o E B R (.nx q) := let ⟨r, a, b⟩ := h; ⟨r, a, b⟩
theorem RtOk.fl {q : β} (h : RtOk o R q) : FlOk o E B R (.rt q) := h
theorem NxOk.imp {q : σ} {E2 : σ → PEnv → Prop} (h : NxOk o E q) (i : ∀ s ρ, E s ρ → E2 s ρ) : NxOk o E2 q := let ⟨r, a, b⟩ := h; ⟨r, a, i _ _ b⟩
theorem RtOk.imp {q : β} {R2 : β → Rs → Prop} (h : RtOk o R q) (i : ∀ s x, R s x → R2 s x) : RtOk o R2 q := let ⟨r, a, b⟩ := h; ⟨r, a, i _ _ b⟩
theorem FlOk.imp {q : Fl σ τ β} {E2 : σ → PEnv → Prop} {B2 : τ → PEnv → Prop} {R2 : β → Rs → Prop} (h : FlOk o E B R q) (i : ∀ s ρ, E s ρ → E2 s ρ) (j : ∀ s ρ, B s ρ → B2 s ρ) (l : ∀ s x, R s x → R2 s x) : FlOk o E2 B2 R2 q := by
  cases q with
  | nx s => obtain ⟨r, a, b⟩ := h; exact ⟨r, a, i _ _ b⟩
  | bk s => obtain ⟨r, a, b⟩ := h; exact ⟨r, a, j _ _ b⟩
  | ct s => obtain ⟨r, a, b⟩ := h; exact ⟨r, a, j _ _ b⟩
  | rt s => obtain ⟨r, a, b⟩ := h; exact ⟨r, a, l _ _ b⟩
theorem sq_nx (h : F ρ = some (.nx ρ')) : sSeq F G ρ = G ρ' := sSeq_nx h
theorem st_set {n : Nat} {f : FE} {r : Rs} {c : Cel} (h : EV f ρ r) (hc : celOf r = some c) (hρ : ρ.set n (some c) = ρ') : sSet n f ρ = some (.nx ρ') := by
  rw [sSet_run h hc, hρ]
theorem ce_k {k : Kd} {ds : List Dt} (hk : k ≠ .bor) : celOf (kR k ds) = some (kC k ds) := by cases k <;> first | rfl | exact absurd rfl hk
theorem st_app {n : Nat} {f : FE} {r : Rs} {ds : List Dt} {d : Dt} (h0 : ρ[n]? = some (some (.own ds))) (h : EV f ρ r) (hz : frz r = some (.ok d)) (hl : ds.length < LINE) (hρ : ρ.set n (some (.own (ds ++ [d]))) = ρ') : sApp n f ρ = some (.nx ρ') := by
  unfold sApp
  rw [h0]
  dsimp only
  rw [h, bndS_ok, hz, bndS_ok, if_pos hl, hρ]
theorem st_ix {n : Nat} {α : Type} {e : α → Dt} {fk f : FE} {r : Rs} {xs : List α} {x : α} {i : Int} (h0 : ρ[n]? = some (some (.own (xs.map e)))) (h : EV f ρ r) (hz : frz r = some (.ok (e x))) (hk : EV fk ρ (.fro (.int i))) (hi : inR xs i) (hρ : ρ.set n (some (.own ((setT xs i x).map e))) = ρ') : sSetIx n fk f ρ = some (.nx ρ') := by
  obtain ⟨j, h1, h2⟩ := inR_ix hi
  unfold sSetIx
  rw [h0]
  dsimp only
  rw [h, bndS_ok, hz, bndS_ok, hk, bndS_ok, asI_int, bndS_ok, List.length_map, h1, ← hρ]
  unfold setT
  rw [h1, List.map_set]
theorem st_pop {n : Nat} {α : Type} {e : α → Dt} {xs : List α} (h0 : ρ[n]? = some (some (.own (xs.map e)))) (hi : xs ≠ []) (hρ : ρ.set n (some (.own (xs.dropLast.map e))) = ρ') : sPop n ρ = some (.nx ρ') := by
  unfold sPop
  rw [h0]
  dsimp only
  rw [if_neg (by simpa using hi), ← hρ, List.map_dropLast]
theorem st_aug {n : Nat} {gg : G2} {f : FE} {d : Dt} {r y : Rs} {c : Cel} (h0 : ρ[n]? = some (some (.fro d))) (h : EV f ρ r) (h1 : gg (.fro d) r = some (.ok y)) (hc : celOf y = some c) (hρ : ρ.set n (some c) = ρ') : sAug gg n f ρ = some (.nx ρ') := by
  unfold sAug
  rw [h0]
  dsimp only
  rw [h, bndS_ok, h1, bndS_ok, hc, ← hρ]
theorem st_expr {f : FE} {r : Rs} (h : EV f ρ r) : sExpr f ρ = some (.nx ρ) := by
  show bndS ρ (f ρ) _ = _
  rw [h]; rfl
theorem st_tup {is : List Nat} {f : FE} {r : Rs} {ds : List Dt} (h : EV f ρ r) (hz : frz r = some (.ok (.tup ds))) (hρ : gtNames is ds ρ = some ρ') : sSetT is f ρ = some (.nx ρ') := by
  show bndS ρ (f ρ) _ = _
  rw [h, bndS_ok, hz, bndS_ok]
  unfold gtTup
  dsimp only
  rw [hρ]
theorem st_fld {i c j : Nat} {f : FE} {r : Rs} {d : Dt} {ds : List Dt} (h0 : ρ[i]? = some (some (.mk c ds))) (h : EV f ρ r) (hz : frz r = some (.ok d)) (hl : ds.length = j) (hρ : ρ.set i (some (.mk c (ds ++ [d]))) = ρ') : sFld i c j f ρ = some (.nx ρ') := by
  unfold sFld
  rw [h, bndS_ok, hz, bndS_ok, h0]
  dsimp only
  rw [if_pos ⟨rfl, hl⟩, hρ]
theorem fz_own {i : Nat} {ds : List Dt} {o : Option Out} (h0 : ρ[i]? = some (some (.own ds))) (hρ : ρ.set i (some (.fro (.lst ds))) = ρ') (h : F ρ' = o) : sFrz i F ρ = o := by
  unfold sFrz; rw [h0]; dsimp only; rw [hρ, h]
theorem fz_fro {i : Nat} {d : Dt} {o : Option Out} (h0 : ρ[i]? = some (some (.fro d))) (h : F ρ = o) : sFrz i F ρ = o := by
  unfold sFrz; rw [h0]; exact h
theorem fz_mix {i : Nat} {k : Kd} {ds : List Dt} {o : Option Out} (h0 : ρ[i]? = some (some (kC k ds))) (hρ : ρ.set i (some (.fro (.lst ds))) = ρ') (h : F ρ' = o) : sFrz i F ρ = o := by
  cases k with
  | fro =>
    have e : ρ' = ρ := by
      rw [← hρ]
      have hl := (List.getElem?_eq_some_iff.mp h0).1
      have h1 := (List.getElem?_eq_some_iff.mp h0).2
      show ρ.set i (some (kC .fro ds)) = ρ
      rw [← h1]
      exact List.set_getElem_self hl
    exact fz_fro h0 (by rw [← e, h])
  | own => exact fz_own h0 hρ h
  | bor => exact fz_own h0 hρ h
/-- frozen ahead, for any wish about the outcome -/
theorem fq_own {i : Nat} {ds : List Dt} (h0 : ρ[i]? = some (some (.own ds))) (hρ : ρ.set i (some (.fro (.lst ds))) = ρ') : sFrz i F ρ = F ρ' := fz_own h0 hρ rfl
theorem fq_fro {i : Nat} {d : Dt} (h0 : ρ[i]? = some (some (.fro d))) : sFrz i F ρ = F ρ := fz_fro h0 rfl
theorem fq_mix {i : Nat} {k : Kd} {ds : List Dt} (h0 : ρ[i]? = some (some (kC k ds))) (hρ : ρ.set i (some (.fro (.lst ds))) = ρ') : sFrz i F ρ = F ρ' := fz_mix h0 hρ rfl
theorem sqf_fro {i : Nat} {d : Dt} (h0 : ρ[i]? = some (some (.fro d))) : sSeq (sFrz i F) G ρ = sSeq F G ρ := by unfold sSeq; rw [fq_fro h0]
theorem sqf_own {i : Nat} {ds : List Dt} (h0 : ρ[i]? = some (some (.own ds))) (hρ : ρ.set i (some (.fro (.lst ds))) = ρ') : sSeq (sFrz i F) G ρ = sSeq F G ρ' := by unfold sSeq; rw [fq_own h0 hρ]
theorem sqf_mix {i : Nat} {k : Kd} {ds : List Dt} (h0 : ρ[i]? = some (some (kC k ds))) (hρ : ρ.set i (some (.fro (.lst ds))) = ρ') : sSeq (sFrz i F) G ρ = sSeq F G ρ' := by unfold sSeq; rw [fq_mix h0 hρ]
theorem sqi_f {t : FT} {F G H : FS} (h : TV t ρ false) : sSeq (sIf t F G) H ρ = sSeq G H ρ := by unfold sSeq; rw [sIf_f h]
theorem sq_of (e : F ρ = H ρ') : sSeq F G ρ = sSeq H G ρ' := by unfold sSeq; rw [e]
theorem rt_ret {f : FE} {r : Rs} {q : β} (h : EV f ρ r) (hR : R q r) (hr : ∀ ds, r ≠ .bor ds) : RtOk (sRet f ρ) R q := by
  refine ⟨r, ?_, hR⟩
  show bndS ρ (f ρ) _ = _
  rw [h, bndS_ok]
  cases r with
  | bor ds => exact absurd rfl (hr ds)
  | fro d => rfl
  | own ds => rfl
theorem rt_retF {i : Nat} {d : Dt} {q : β} (h : ρ[i]? = some (some (.fro d))) (hR : R q (.fro d)) : RtOk (sRetV i ρ) R q := ⟨_, by unfold sRetV; rw [h], hR⟩
theorem rt_retO {i : Nat} {ds : List Dt} {q : β} (h : ρ[i]? = some (some (.own ds))) (hR : R q (.own ds)) : RtOk (sRetV i ρ) R q := ⟨_, by unfold sRetV; rw [h], hR⟩
theorem rt_retM {i : Nat} {k : Kd} {ds : List Dt} {q : β} (h : ρ[i]? = some (some (kC k ds))) (hR : ∀ k, k ≠ .bor → R q (kR k ds)) : RtOk (sRetV i ρ) R q := by
  cases k with
  | own => exact rt_retO h (hR .own (by simp))
  | bor => exact rt_retO h (hR .own (by simp))
  | fro => exact rt_retF h (hR .fro (by simp))
theorem rt_retN {q : β} (hR : R q (.fro .non)) : RtOk (sRetN ρ) R q := ⟨_, rfl, hR⟩
theorem nx_next {q : σ} (h : E q ρ) : NxOk (sNext ρ) E q := ⟨ρ, rfl, h⟩
theorem nx_st {q : σ} (e : o = some (.nx ρ')) (h : E q ρ') : NxOk o E q := ⟨ρ', e, h⟩
theorem fl_bk {q : τ} (h : B q ρ) : FlOk (sBreak ρ) E B R (.bk q : Fl σ τ β) := ⟨ρ, rfl, h⟩
theorem fl_ct {q : τ} (h : B q ρ) : FlOk (sCont ρ) E B R (.ct q : Fl σ τ β) := ⟨ρ, rfl, h⟩
theorem rt_if {x y : β} (ht : TV t ρ b) (ha : b = true → RtOk (F ρ) R x) (hb : b = false → RtOk (G ρ) R y) : RtOk (sIf t F G ρ) R (if b then x else y) := by
  cases b with
  | true => exact RtOk.of (sIf_t ht) (ha rfl)
  | false => exact RtOk.of (sIf_f ht) (hb rfl)
theorem nx_if {x y : σ} (ht : TV t ρ b) (ha : b = true → NxOk (F ρ) E x) (hb : b = false → NxOk (G ρ) E y) : NxOk (sIf t F G ρ) E (if b then x else y) := by
  cases b with
  | true => exact NxOk.of (sIf_t ht) (ha rfl)
  | false => exact NxOk.of (sIf_f ht) (hb rfl)
theorem fl_if {x y : Fl σ τ β} (ht : TV t ρ b) (ha : b = true → FlOk (F ρ) E B R x) (hb : b = false → FlOk (G ρ) E B R y) : FlOk (sIf t F G ρ) E B R (if b then x else y) := by
  cases b with
  | true => exact FlOk.of (sIf_t ht) (ha rfl)
  | false => exact FlOk.of (sIf_f ht) (hb rfl)
theorem rt_sif {x y : β} (ht : TV t ρ b) (ha : b = true → RtOk (sSeq F H ρ) R x) (hb : b = false → RtOk (sSeq G H ρ) R y) : RtOk (sSeq (sIf t F G) H ρ) R (if b then x else y) := by
  cases b with
  | true => exact RtOk.of (sq_of (sIf_t ht)) (ha rfl)
  | false => exact RtOk.of (sq_of (sIf_f ht)) (hb rfl)
theorem fl_sif {x y : Fl σ τ β} (ht : TV t ρ b) (ha : b = true → FlOk (sSeq F H ρ) E B R x) (hb : b = false → FlOk (sSeq G H ρ) E B R y) : FlOk (sSeq (sIf t F G) H ρ) E B R (if b then x else y) := by
  cases b with
  | true => exact FlOk.of (sq_of (sIf_t ht)) (ha rfl)
  | false => exact FlOk.of (sq_of (sIf_f ht)) (hb rfl)
theorem rt_seq {x : β} (h : RtOk (F ρ) R x) : RtOk (sSeq F H ρ) R x := let ⟨r, a, b⟩ := h; ⟨r, sSeq_rt a, b⟩
theorem sq_N {P : Option Out → Prop} {q : σ} (h : NxOk (F ρ) E q) (k : ∀ ρ', E q ρ' → P (H ρ')) : P (sSeq F H ρ) := by
  obtain ⟨ρ', a, b⟩ := h
  rw [sSeq_nx a]
  exact k ρ' b
theorem sq_XR {B0 : Empty → PEnv → Prop} {q : Fl σ Empty β} {k : σ → β} (h : FlOk (F ρ) E B0 R q) (hk : ∀ s ρ', E s ρ' → q = .nx s → RtOk (H ρ') R (k s)) : RtOk (sSeq F H ρ) R (q.fin k) := by
  cases q with
  | nx s =>
    obtain ⟨ρ', a, c⟩ := h
    exact RtOk.of (sSeq_nx a) (hk s ρ' c rfl)
  | bk s => exact nomatch s
  | ct s => exact nomatch s
  | rt r => exact rt_seq h
theorem sq_XX {q : Fl σ τ β} {k : σ → Fl σ' τ β} (h : FlOk (F ρ) E B R q) (hk : ∀ s ρ', E s ρ' → q = .nx s → FlOk (H ρ') E' B R (k s)) : FlOk (sSeq F H ρ) E' B R (q.bind k) := by
  cases q with
  | nx s =>
    obtain ⟨ρ', a, c⟩ := h
    exact FlOk.of (sSeq_nx a) (hk s ρ' c rfl)
  | bk s =>
    obtain ⟨ρ', a, c⟩ := h
    exact ⟨ρ', by unfold sSeq; rw [a], c⟩
  | ct s =>
    obtain ⟨ρ', a, c⟩ := h
    exact ⟨ρ', by unfold sSeq; rw [a], c⟩
  | rt r =>
    obtain ⟨x, a, c⟩ := h
    exact ⟨x, sSeq_rt a, c⟩
end
/-! ### loops -/
section
variable {σ τ α β : Type} {E : σ → PEnv → Prop} {B : τ → PEnv → Prop} {R : β → Rs → Prop} {body : FS} {gg : GT} {e : α → Dt} {t : FT} {ρ : PEnv}
def forV (V : σ → α → Prop) (f : σ → α → σ) : List α → σ → Prop
  | [], _ => True
  | x :: xs, s => V s x ∧ forV V f xs (f s x)
def forX (f : σ → α → Fl σ σ β) : List α → σ → Fl σ τ β
  | [], s => .nx s
  | x :: xs, s => match f s x with
    | .nx s' => forX f xs s'
    | .ct s' => forX f xs s'
    | .bk s' => .nx s'
    | .rt r => .rt r
def forVX (V : σ → α → Prop) (f : σ → α → Fl σ σ β) : List α → σ → Prop
  | [], _ => True
  | x :: xs, s => V s x ∧ (match f s x with
    | .nx s' => forVX V f xs s'
    | .ct s' => forVX V f xs s'
    | _ => True)
theorem for_N {V : σ → α → Prop} {f : σ → α → σ} (st : ∀ s x ρ, E s ρ → V s x → ∃ ρ1, gg (e x) ρ = some ρ1 ∧ NxOk (body ρ1) E (f s x)) : ∀ (xs : List α) (s : σ) (ρ : PEnv), E s ρ → forV V f xs s → NxOk (forD gg body (xs.map e) ρ) E (xs.foldl f s)
  | [], s, ρ, h, _ => ⟨ρ, rfl, h⟩
  | x :: xs, s, ρ, h, v => by
    obtain ⟨ρ1, h1, ρ2, h2, h3⟩ := st s x ρ h v.1
    refine NxOk.of ?_ (for_N st xs (f s x) ρ2 h3 v.2)
    show (match gg (e x) ρ with | none => none | some ρ1 => _) = _
    rw [h1]
    dsimp only
    rw [h2]
theorem for_X {V : σ → α → Prop} {f : σ → α → Fl σ σ β} (st : ∀ s x ρ, E s ρ → V s x → ∃ ρ1, gg (e x) ρ = some ρ1 ∧ FlOk (body ρ1) E E R (f s x)) : ∀ (xs : List α) (s : σ) (ρ : PEnv), E s ρ → forVX V f xs s → FlOk (forD gg body (xs.map e) ρ) E B R (forX f xs s)
  | [], s, ρ, h, _ => ⟨ρ, rfl, h⟩
  | x :: xs, s, ρ, h, v => by
    obtain ⟨ρ1, h1, h2⟩ := st s x ρ h v.1
    have v2 := v.2
    unfold forX
    generalize f s x = q at h2 v2
    rw [List.map_cons]
    cases q with
    | nx s' =>
      obtain ⟨ρ2, h3, h4⟩ := h2
      refine FlOk.of ?_ (for_X st xs s' ρ2 h4 v2)
      show (match gg (e x) ρ with | none => none | some ρ1 => _) = _
      rw [h1]
      dsimp only
      rw [h3]
    | ct s' =>
      obtain ⟨ρ2, h3, h4⟩ := h2
      refine FlOk.of ?_ (for_X st xs s' ρ2 h4 v2)
      show (match gg (e x) ρ with | none => none | some ρ1 => _) = _
      rw [h1]
      dsimp only
      rw [h3]
    | bk s' =>
      obtain ⟨ρ2, h3, h4⟩ := h2
      refine ⟨ρ2, ?_, h4⟩
      show (match gg (e x) ρ with | none => none | some ρ1 => _) = _
      rw [h1]
      dsimp only
      rw [h3]
    | rt r =>
      obtain ⟨x', h3, h4⟩ := h2
      refine ⟨x', ?_, h4⟩
      show (match gg (e x) ρ with | none => none | some ρ1 => _) = _
      rw [h1]
      dsimp only
      rw [h3]
theorem sfor_eq {it : FIt} {ds : List Dt} (h : IV it ρ ds) : sFor it gg body ρ = forD gg body ds ρ := for_run h
theorem forV_true {f : σ → α → σ} : ∀ (xs : List α) (s : σ), forV (fun _ _ => True) f xs s
  | [], _ => trivial
  | _ :: xs, _ => ⟨trivial, forV_true xs _⟩
theorem forVX_true {f : σ → α → Fl σ σ β} : ∀ (xs : List α) (s : σ), forVX (fun _ _ => True) f xs s
  | [], _ => trivial
  | x :: xs, s => by
    refine ⟨trivial, ?_⟩
    split
    · exact forVX_true xs _
    · exact forVX_true xs _
    · trivial
/-! while -/
def whN (t : σ → Bool) (Vt : σ → Prop) (f : σ → σ) (V : σ → Prop) : Nat → σ → Prop
  | 0, s => Vt s ∧ t s = false
  | n + 1, s => Vt s ∧ t s = true ∧ V s ∧ whN t Vt f V n (f s)
def whV (t : σ → Bool) (Vt : σ → Prop) (f : σ → σ) (V : σ → Prop) (s : σ) : Prop := ∃ n, whN t Vt f V n s
def itN (f : σ → σ) : Nat → σ → σ
  | 0, s => s
  | n + 1, s => itN f n (f s)
def whT (t : σ → Bool) (f : σ → σ) : Nat → σ → Prop
  | 0, s => t s = false
  | n + 1, s => t s = true ∧ whT t f n (f s)
open Classical in
noncomputable def wh (t : σ → Bool) (f : σ → σ) (s : σ) : σ := if h : ∃ n, whT t f n s then itN f (Classical.choose h) s else s
theorem whT_uniq {t : σ → Bool} {f : σ → σ} : ∀ {n m : Nat} {s : σ}, whT t f n s → whT t f m s → n = m
  | 0, 0, _, _, _ => rfl
  | 0, m + 1, s, h, k => by have := k.1; rw [show t s = false from h] at this; cases this
  | n + 1, 0, s, h, k => by have := h.1; rw [show t s = false from k] at this; cases this
  | n + 1, m + 1, s, h, k => by rw [whT_uniq h.2 k.2]
theorem wh_at {t : σ → Bool} {f : σ → σ} {n : Nat} {s : σ} (h : whT t f n s) : wh t f s = itN f n s := by
  unfold wh
  have h' : ∃ n, whT t f n s := ⟨n, h⟩
  rw [dif_pos h', whT_uniq (Classical.choose_spec h') h]
theorem wh_end {t : σ → Bool} {f : σ → σ} {s : σ} (h : t s = false) : wh t f s = s := wh_at (n := 0) h
theorem wh_step {t : σ → Bool} {f : σ → σ} {s : σ} (h : t s = true) (k : ∃ n, whT t f n (f s)) : wh t f s = wh t f (f s) := by
  obtain ⟨n, k⟩ := k
  rw [wh_at k, wh_at (n := n + 1) ⟨h, k⟩]
  rfl
theorem whN_T {t : σ → Bool} {Vt V : σ → Prop} {f : σ → σ} : ∀ {n : Nat} {s : σ}, whN t Vt f V n s → whT t f n s
  | 0, _, h => h.2
  | _ + 1, _, h => ⟨h.2.1, whN_T h.2.2.2⟩
theorem while_go {t' : σ → Bool} {Vt V : σ → Prop} {f : σ → σ} (ht : ∀ s ρ, E s ρ → Vt s → TV t ρ (t' s)) (st : ∀ s ρ, E s ρ → V s → t' s = true → NxOk (body ρ) E (f s)) : ∀ (n : Nat) (s : σ) (ρ : PEnv), E s ρ → whN t' Vt f V n s → ∃ m ρ', whileD t body m ρ = some (.nx ρ') ∧ E (itN f n s) ρ'
  | 0, s, ρ, h, v => ⟨1, ρ, while_end (by have := ht s ρ h v.1; rw [v.2] at this; exact this), h⟩
  | n + 1, s, ρ, h, v => by
    obtain ⟨ρ2, h2, h3⟩ := st s ρ h v.2.2.1 v.2.1
    obtain ⟨m, ρ', h4, h5⟩ := while_go ht st n (f s) ρ2 h3 v.2.2.2
    exact ⟨m + 1, ρ', while_step (by have := ht s ρ h v.1; rw [v.2.1] at this; exact this) h2 h4, h5⟩
theorem while_N {t' : σ → Bool} {Vt V : σ → Prop} {f : σ → σ} (ht : ∀ s ρ, E s ρ → Vt s → TV t ρ (t' s)) (st : ∀ s ρ, E s ρ → V s → t' s = true → NxOk (body ρ) E (f s)) {s : σ} {ρ : PEnv} (h : E s ρ) (v : whV t' Vt f V s) : NxOk (sWhile t body ρ) E (wh t' f s) := by
  obtain ⟨n, v⟩ := v
  obtain ⟨m, ρ', h1, h2⟩ := while_go ht st n s ρ h v
  rw [wh_at (whN_T v)]
  exact ⟨ρ', sWhile_of h1, h2⟩
end
def Kd.of : M Rs → Kd
  | some (.ok (.own _)) => .own
  | _ => .fro
theorem Kd.of_ne (m : M Rs) : Kd.of m ≠ .bor := by unfold Kd.of; split <;> simp
theorem Kd.of_eq {m : M Rs} {ds : List Dt} (h : ∃ k, k ≠ .bor ∧ m = some (.ok (kR k ds))) : m = some (.ok (kR (Kd.of m) ds)) := by
  obtain ⟨k, h1, rfl⟩ := h
  cases k with
  | own => rfl
  | fro => rfl
  | bor => exact absurd rfl h1
/-! ### defs -/
section
variable {β σ : Type} {F : FS} {R : β → Rs → Prop} {args : List Dt}
theorem fn_rt {np nl : Nat} {q : β} (h : RtOk (F (args.map (fun d => some (.fro d)) ++ List.replicate nl none)) R q) (hl : args.length = np := by rfl) : ∃ r, fnD np nl F args = some (.ok r) ∧ R q r := by
  obtain ⟨x, a, b⟩ := h
  exact ⟨x, by rw [fnD_run hl, a]; rfl, b⟩
theorem fn_F {α : Type} {e : α → Dt} {np nl : Nat} {q : α} (h : RtOk (F (args.map (fun d => some (.fro d)) ++ List.replicate nl none)) (fun r x => x = .fro (e r)) q) (hl : args.length = np := by rfl) : fnD np nl F args = some (.ok (.fro (e q))) := by
  obtain ⟨x, a, b⟩ := fn_rt h hl
  rw [a, b]
theorem fn_O {α : Type} {e : α → Dt} {np nl : Nat} {q : List α} (h : RtOk (F (args.map (fun d => some (.fro d)) ++ List.replicate nl none)) (fun r x => x = .own (r.map e)) q) (hl : args.length = np := by rfl) : fnD np nl F args = some (.ok (.own (q.map e))) := by
  obtain ⟨x, a, b⟩ := fn_rt h hl
  rw [a, b]
theorem fn_I {c nf np nl : Nat} {E : σ → PEnv → Prop} {fs : List Dt} {q : σ} (h : NxOk (F (some (.mk c []) :: (args.map (fun d => some (.fro d)) ++ List.replicate nl none))) E q) (he : ∀ ρ, E q ρ → ρ[0]? = some (some (.mk c fs))) (hn : fs.length = nf := by rfl) (hl : args.length = np := by rfl) : mkD c (fnI c nf np nl F) args = some (.ok (.fro (.ins c fs))) := by
  obtain ⟨ρ', a, b⟩ := h
  unfold mkD fnI
  rw [if_pos hl, a]
  unfold outI
  dsimp only
  rw [he ρ' b]
  dsimp only
  rw [if_pos ⟨rfl, hn⟩]
  rfl
end
end Pd

set_option maxHeartbeats 2000000
/-! QvB: more typed readings; the classes' data. -/
namespace Pd
open PySem PySem.Spec L2
instance : Inhabited PySem.Str := ⟨⟨#[]⟩⟩
structure Fr where
  num : Int
  den : Int
  deriving Inhabited, DecidableEq
structure Po where
  coefs : List Int
  den : Int
  deriving Inhabited, DecidableEq
structure Po2 where
  rows : List Po
  deriving Inhabited, DecidableEq
structure Qt where
  num : Po
  den : Po
  deriving Inhabited, DecidableEq
structure Tm where
  start : Int
  first : Fr
  ratio : Qt
  deriving Inhabited, DecidableEq
structure Bs where
  weight : Po2
  base : Fr
  choose : Int
  rise : Int
  central : Int
  deriving Inhabited, DecidableEq
structure Opr where
  coefs : List Po
  deriving Inhabited, DecidableEq
structure Rw where
  operator : Opr
  initial : List Fr
  deriving Inhabited, DecidableEq
abbrev qFr (a : Fr) : Dt := .ins 20 [.int a.num, .int a.den]
abbrev qPo (a : Po) : Dt := .ins 21 [qV qI a.coefs, .int a.den]
abbrev qPo2 (a : Po2) : Dt := .ins 22 [qV qPo a.rows]
abbrev qQt (a : Qt) : Dt := .ins 23 [qPo a.num, qPo a.den]
abbrev qTm (a : Tm) : Dt := .ins 24 [.int a.start, qFr a.first, qQt a.ratio]
abbrev qBs (a : Bs) : Dt := .ins 25 [qPo2 a.weight, qFr a.base, .int a.choose, .int a.rise, .int a.central]
abbrev qOpr (a : Opr) : Dt := .ins 26 [qV qPo a.coefs]
abbrev qRw (a : Rw) : Dt := .ins 27 [qOpr a.operator, qV qFr a.initial]
abbrev qT0 (_ : Unit) : Dt := .tup []
section
variable {σ τ σ' β α : Type} {o : Option Out} {E : σ → PEnv → Prop} {E' : σ' → PEnv → Prop} {B : τ → PEnv → Prop} {R : β → Rs → Prop} {F : FS} {ρ ρ' : PEnv} {t : FT} {b : Bool} {args : List Dt}
def Fl.map (q : Fl σ τ β) (f : σ → σ') : Fl σ' τ β := match q with
  | .nx s => .nx (f s)
  | .bk s => .bk s
  | .ct s => .ct s
  | .rt r => .rt r
@[simp] theorem Fl.map_nx (s : σ) (f : σ → σ') : (Fl.nx s : Fl σ τ β).map f = .nx (f s) := rfl
@[simp] theorem Fl.map_rt (s : β) (f : σ → σ') : (Fl.rt s : Fl σ τ β).map f = .rt s := rfl
theorem NxOk.map {q : σ} {f : σ → σ'} (h : NxOk o E q) (i : ∀ s ρ, E s ρ → E' (f s) ρ) : NxOk o E' (f q) := let ⟨r, a, b⟩ := h; ⟨r, a, i _ _ b⟩
theorem FlOk.map {q : Fl σ τ β} {f : σ → σ'} (h : FlOk o E B R q) (i : ∀ s ρ, E s ρ → E' (f s) ρ) : FlOk o E' B R (q.map f) := by
  cases q with
  | nx s => obtain ⟨r, a, b⟩ := h; exact ⟨r, a, i _ _ b⟩
  | bk s => exact h
  | ct s => exact h
  | rt s => exact h
theorem sq_NR {G H : FS} {q : σ} {x : β} (h : NxOk (G ρ) E q) (k : ∀ ρ', E q ρ' → RtOk (H ρ') R x) : RtOk (sSeq G H ρ) R x := sq_N (P := fun o => RtOk o R x) h k
theorem sq_NN {G H : FS} {q : σ} {x : σ'} (h : NxOk (G ρ) E q) (k : ∀ ρ', E q ρ' → NxOk (H ρ') E' x) : NxOk (sSeq G H ρ) E' x := sq_N (P := fun o => NxOk o E' x) h k
theorem sq_NX {G H : FS} {q : σ} {x : Fl σ' τ β} (h : NxOk (G ρ) E q) (k : ∀ ρ', E q ρ' → FlOk (H ρ') E' B R x) : FlOk (sSeq G H ρ) E' B R x := sq_N (P := fun o => FlOk o E' B R x) h k
theorem tv_eq (h : TV t ρ b) (e : b = false) : TV t ρ false := e ▸ h
theorem kR_nb {k : Kd} {ds : List Dt} (h : k ≠ .bor) : ∀ es, kR k ds ≠ .bor es := fun es e => by cases k <;> first | (cases e; done) | exact h rfl
theorem fn_M {e : α → Dt} {np nl : Nat} {q : List α} (h : RtOk (F (args.map (fun d => some (.fro d)) ++ List.replicate nl none)) (fun r x => ∃ k : Kd, k ≠ .bor ∧ x = kR k (r.map e)) q) (hl : args.length = np := by rfl) : fnD np nl F args = some (.ok (kR (Kd.of (fnD np nl F args)) (q.map e))) := by
  obtain ⟨x, a, k, b, c⟩ := fn_rt h hl
  exact Kd.of_eq ⟨k, b, by rw [a, c]⟩
theorem st_appT {n : Nat} {f : FE} {r : Rs} {e : α → Dt} {xs : List α} {x : α} (h0 : ρ[n]? = some (some (.own (xs.map e)))) (h : EV f ρ r) (hz : frz r = some (.ok (e x))) (hl : xs.length < LINE) (hρ : ρ.set n (some (.own ((xs ++ [x]).map e))) = ρ') : sApp n f ρ = some (.nx ρ') := by
  rw [List.map_append, List.map_cons, List.map_nil] at hρ
  exact st_app h0 h hz (by rw [List.length_map]; exact hl) hρ
end
end Pd

set_option maxHeartbeats 2000000
/-! QvC: more typed readings: enumerate, zip, data compared, lcm, sum, keywords. -/
namespace Pd
open PySem PySem.Spec L2
section
variable {α β : Type} {f g : FE} {ρ : PEnv} {i j : Int} {ds es : List Dt} {r : Rs} {n m : Nat}
def enN (i : Nat) : List α → List (Int × α)
  | [] => []
  | x :: xs => ((i : Int), x) :: enN (i + 1) xs
abbrev enT (xs : List α) : List (Int × α) := enN 0 xs
theorem enN_map (e : α → Dt) (i : Nat) (xs : List α) : enD i (xs.map e) = (enN i xs).map (qT2 qI e) := by
  induction xs generalizing i with
  | nil => rfl
  | cons x xs ih => show _ :: _ = _ :: _; rw [ih]
theorem zip_map (e : α → Dt) (e' : β → Dt) : ∀ (xs : List α) (ys : List β), zipD (xs.map e) (ys.map e') = (xs.zip ys).map (qT2 e e')
  | [], _ => rfl
  | _ :: _, [] => rfl
  | x :: xs, y :: ys => by show _ :: _ = _ :: _; rw [zip_map e e' xs ys]; rfl
theorem iv_enK {k : Kd} {e : α → Dt} {xs : List α} (hf : EV f ρ (kR k (xs.map e))) (hk : k ≠ .bor) : IV (iEnS f) ρ ((enT xs).map (qT2 qI e)) := by
  show bnd (f ρ) _ = _
  rw [hf, bnd_ok, fz_k hk, bnd_ok, ← enN_map]; rfl
theorem iv_enV {e : α → Dt} {xs : List α} (hf : EV f ρ (.fro (.tup (xs.map e)))) : IV (iEnS f) ρ ((enT xs).map (qT2 qI e)) := by
  show bnd (f ρ) _ = _
  rw [hf, bnd_ok, frz_fro, bnd_ok, ← enN_map]; rfl
theorem iv_zip {k l : Kd} {e : α → Dt} {e' : β → Dt} {xs : List α} {ys : List β} (hf : EV f ρ (kR k (xs.map e))) (hg : EV g ρ (kR l (ys.map e'))) (hk : k ≠ .bor) (hl : l ≠ .bor) : IV (iZipS f g) ρ ((xs.zip ys).map (qT2 e e')) := by
  show bnd (f ρ) _ = _
  rw [hf, bnd_ok, fz_k hk, bnd_ok, hg, bnd_ok, fz_k hl, bnd_ok, ← zip_map]; rfl
theorem iv_zipV {e : α → Dt} {e' : β → Dt} {xs : List α} {ys : List β} (hf : EV f ρ (.fro (.tup (xs.map e)))) (hg : EV g ρ (.fro (.tup (ys.map e')))) : IV (iZipS f g) ρ ((xs.zip ys).map (qT2 e e')) := by
  show bnd (f ρ) _ = _
  rw [hf, bnd_ok, frz_fro, bnd_ok, hg, bnd_ok, frz_fro, bnd_ok, ← zip_map]; rfl
/-! ### data compared -/
class PyE (e : α → Dt) where
  py : α → PyData
  dep : Nat
  ok : ∀ a, pyD (e a) = some (py a)
  lay : ∀ a, (py a).canLay0 = true
  le : ∀ a, (py a).depth ≤ dep
  eq : ∀ a b, PyData.eqv (py a) (py b) = true ↔ a = b
instance : PyE qI := ⟨.int, 0, fun _ => by simp [pyD], fun _ => by simp [PyData.canLay0], fun _ => by simp [PyData.depth], fun a b => by simp [PyData.eqv]⟩
instance : PyE qB := ⟨.bool, 0, fun _ => by simp [pyD], fun _ => by simp [PyData.canLay0], fun _ => by simp [PyData.depth], fun a b => by simp [PyData.eqv]⟩
instance : PyE qN := ⟨fun _ => .none, 0, fun _ => by simp [pyD], fun _ => by simp [PyData.canLay0], fun _ => by simp [PyData.depth], fun a b => by simp [PyData.eqv]⟩
theorem pyDs_map (e : α → Dt) [P : PyE e] (xs : List α) : pyDs (xs.map e) = some (xs.map P.py) := by
  induction xs with
  | nil => simp [pyDs]
  | cons x xs ih => simp only [List.map_cons, pyDs, P.ok x, ih]
theorem lay_map (e : α → Dt) [P : PyE e] (xs : List α) : PyData.canLayAll0 (xs.map P.py) = true := by
  induction xs with
  | nil => simp [PyData.canLayAll0]
  | cons x xs ih => simp only [List.map_cons, PyData.canLayAll0, P.lay x, ih, Bool.and_self]
theorem dep_map (e : α → Dt) [P : PyE e] (xs : List α) : PyData.depthAll (xs.map P.py) ≤ P.dep := by
  induction xs with
  | nil => simp [PyData.depthAll]
  | cons x xs ih =>
    simp only [List.map_cons, PyData.depthAll]
    have := P.le x
    omega
theorem eq_map (e : α → Dt) [P : PyE e] (xs ys : List α) : PyData.eqvAll (xs.map P.py) (ys.map P.py) = true ↔ xs = ys := by
  induction xs generalizing ys with
  | nil => cases ys <;> simp [PyData.eqvAll]
  | cons x xs ih =>
    cases ys with
    | nil => simp [PyData.eqvAll]
    | cons y ys => simp only [List.map_cons, PyData.eqvAll, Bool.and_eq_true, P.eq, ih, List.cons.injEq]
instance (e : α → Dt) [P : PyE e] : PyE (qL e) := ⟨fun xs => .list (xs.map P.py), P.dep + 1, fun xs => by simp [pyD, pyDs_map], fun xs => by simp only [PyData.canLay0]; exact lay_map e xs, fun xs => by simp only [PyData.depth]; have := dep_map e xs; omega, fun a b => by simp only [PyData.eqv]; exact eq_map e a b⟩
instance (e : α → Dt) [P : PyE e] : PyE (qV e) := ⟨fun xs => .tuple (xs.map P.py), P.dep + 1, fun xs => by simp [pyD, pyDs_map], fun xs => by simp only [PyData.canLay0]; exact lay_map e xs, fun xs => by simp only [PyData.depth]; have := dep_map e xs; omega, fun a b => by simp only [PyData.eqv]; exact eq_map e a b⟩
instance (e : α → Dt) (e' : β → Dt) [P : PyE e] [Q : PyE e'] : PyE (qT2 e e') := ⟨fun p => .tuple [P.py p.1, Q.py p.2], max P.dep Q.dep + 1, fun p => by simp [pyD, pyDs, P.ok, Q.ok], fun p => by simp [PyData.canLay0, PyData.canLayAll0, P.lay, Q.lay],
  fun p => by simp only [PyData.depth, PyData.depthAll]; have := P.le p.1; have := Q.le p.2; omega, fun a b => by simp only [PyData.eqv, PyData.eqvAll, Bool.and_eq_true, P.eq, Q.eq, Bool.and_true]; exact ⟨fun h => Prod.ext h.1 h.2, fun h => by rw [h]; exact ⟨rfl, rfl⟩⟩⟩
theorem shp (e : α → Dt) [P : PyE e] (hd : P.dep ≤ 64) (a : α) : SeqAt.shaped (P.py a) = true := by
  unfold SeqAt.shaped
  rw [P.lay a, Bool.true_and]
  exact decide_eq_true (Nat.le_trans (P.le a) hd)
theorem eqDt_at {e : α → Dt} [P : PyE e] [DecidableEq α] (hd : P.dep ≤ 64) {x y : Rs} {a b : α} (hx : pyR x = some (P.py a)) (hy : pyR y = some (P.py b)) : eqDt x y = some (decide (a = b)) := by
  unfold eqDt
  rw [hx, hy]
  dsimp only
  rw [if_pos ⟨shp e hd a, shp e hd b⟩]
  congr 1
  rw [Bool.eq_iff_iff, decide_eq_true_eq]
  exact P.eq a b
theorem pyR_k {k : Kd} {e : α → Dt} [P : PyE e] {xs : List α} : pyR (kR k (xs.map e)) = some (PyE.py (qL e) xs) := by
  cases k <;> simp [kR, pyR, pyD, pyDs_map] <;> rfl
theorem g_eqK {k l : Kd} {e : α → Dt} [P : PyE e] [DecidableEq α] {xs ys : List α} (hd : P.dep ≤ 63 := by decide) : gEqD (kR k (xs.map e)) (kR l (ys.map e)) = some (.ok (.fro (.bl (decide (xs = ys))))) := by
  unfold gEqD
  rw [eqDt_at (e := qL e) (Nat.succ_le_succ hd) pyR_k pyR_k]
theorem g_neK {k l : Kd} {e : α → Dt} [P : PyE e] [DecidableEq α] {xs ys : List α} (hd : P.dep ≤ 63 := by decide) : gNeD (kR k (xs.map e)) (kR l (ys.map e)) = some (.ok (.fro (.bl (!decide (xs = ys))))) := by
  unfold gNeD
  rw [eqDt_at (e := qL e) (Nat.succ_le_succ hd) pyR_k pyR_k]
theorem g_eqF {e : α → Dt} [P : PyE e] [DecidableEq α] {a b : α} (hd : P.dep ≤ 64 := by decide) : gEqD (.fro (e a)) (.fro (e b)) = some (.ok (.fro (.bl (decide (a = b))))) := by
  unfold gEqD
  rw [eqDt_at (e := e) hd (x := .fro (e a)) (y := .fro (e b)) (P.ok a) (P.ok b)]
theorem g_neF {e : α → Dt} [P : PyE e] [DecidableEq α] {a b : α} (hd : P.dep ≤ 64 := by decide) : gNeD (.fro (e a)) (.fro (e b)) = some (.ok (.fro (.bl (!decide (a = b))))) := by
  unfold gNeD
  rw [eqDt_at (e := e) hd (x := .fro (e a)) (y := .fro (e b)) (P.ok a) (P.ok b)]
theorem g_inK {k : Kd} {e : α → Dt} [P : PyE e] [DecidableEq α] {a : α} {xs : List α} (hd : P.dep ≤ 63 := by decide) : gInD (.fro (e a)) (kR k (xs.map e)) = some (.ok (.fro (.bl (decide (a ∈ xs))))) := by
  unfold gInD
  rw [show pyR (.fro (e a)) = some (P.py a) from P.ok a, pyR_k]
  show (if SeqAt.shaped (P.py a) = true ∧ SeqAt.shaped (.list (xs.map P.py)) = true then _ else none) = _
  rw [if_pos ⟨shp e (by omega) a, shp (qL e) (Nat.succ_le_succ hd) xs⟩]
  have : ((xs.map P.py).any fun z => PyData.eqv z (P.py a)) = decide (a ∈ xs) := by
    rw [Bool.eq_iff_iff, decide_eq_true_eq, List.any_eq_true]
    constructor
    · rintro ⟨z, hz, h⟩
      obtain ⟨y, hy, rfl⟩ := List.mem_map.mp hz
      rw [(P.eq y a).mp h] at hy
      exact hy
    · intro h
      exact ⟨_, List.mem_map_of_mem h, (P.eq a a).mpr rfl⟩
  rw [this]
theorem g_lcm (hm : lcmOk i j = true) : gLcm (.fro (.int i)) (.fro (.int j)) = some (.ok (.fro (.int (Int.lcm i j : Nat)))) := by
  show (if lcmOk i j then _ else none) = _
  rw [hm]; rfl
theorem intsD_qI (ns : List Int) : intsD (ns.map qI) = some ns := by
  induction ns with
  | nil => rfl
  | cons n ns ih => show (intsD (ns.map qI)).map _ = _; rw [ih]; rfl
theorem g_sum {k : Kd} {ns : List Int} : gSum (kR k (ns.map qI)) = some (.ok (.fro (.int ns.sum))) := by
  unfold gSum
  rw [kR_asL]
  dsimp only
  rw [intsD_qI]
theorem ev_callk {fn : Fn} {fa fk : FA} (hF : fn (ds ++ es) = some (.ok r)) (ha : AV fa ρ ds) (hk : AV fk ρ es) (hl : ds.length = n := by rfl) (hm : es.length = m := by rfl) : EV (eCall n m (fun ds es => fn (ds ++ es)) fa fk) ρ r := by
  show bnd (fa ρ) _ = _
  rw [ha, bnd_ok, hk, bnd_ok, if_pos ⟨hl, hm⟩]
  exact hF
end
end Pd
namespace Pd
open PySem PySem.Spec L2
section
variable {f g : FE} {t u : FT} {ρ : PEnv} {a : Bool} {α : Type}
theorem ev_andS (hf : EV f ρ (.fro (.bl a))) (ha : a = false) : EV (eAnd f g) ρ (.fro (.bl a)) := by
  subst ha
  show bnd (f ρ) _ = _
  rw [hf]; rfl
theorem ev_orS (hf : EV f ρ (.fro (.bl a))) (ha : a = true) : EV (eOr f g) ρ (.fro (.bl a)) := by
  subst ha
  show bnd (f ρ) _ = _
  rw [hf]; rfl
theorem tv_andS (ht : TV t ρ a) (ha : a = false) : TV (tAnd t u) ρ a := by
  subst ha
  show bnd (t ρ) _ = _
  rw [ht]; rfl
theorem tv_orS (ht : TV t ρ a) (ha : a = true) : TV (tOr t u) ρ a := by
  subst ha
  show bnd (t ρ) _ = _
  rw [ht]; rfl
theorem ev_o [Inhabited α] {e : α → Dt} {o : Option α} (hf : EV f ρ (.fro (qO e o))) (ho : o.isSome = true) : EV f ρ (.fro (e (o.getD default))) := by
  cases o with
  | none => cases ho
  | some x => exact hf
end
end Pd

set_option maxHeartbeats 2000000
/-! QvD: errors: functions that raise, and functions that catch. -/
namespace Pd
open PySem PySem.Spec L2
section
variable {f g : FE} {fa : FA} {t : FT} {fn : Fn} {F G H : FS} {ρ ρ' : PEnv} {c n np nl i : Nat} {ds es args : List Dt} {b : Bool} {r : Rs} {hit res : Nat → Option Bool}
theorem x_expr (h : f ρ = some (.ex c es)) : sExpr f ρ = some (.xc c es ρ) := by
  unfold sExpr; rw [h]; rfl
theorem x_call (ha : AV fa ρ ds) (h : fn ds = some (.ex c es)) (hl : ds.length = n := by rfl) : eCa n fn fa ρ = some (.ex c es) := (eCa_run ha hl).trans h
theorem x_callk {m : Nat} {fk : FA} {fn2 : List Dt → List Dt → M Rs} {zs : List Dt} (ha : AV fa ρ ds) (hk : AV fk ρ zs) (h : fn2 ds zs = some (.ex c es)) (hl : ds.length = n := by rfl) (hm : zs.length = m := by rfl) : eCall n m fn2 fa fk ρ = some (.ex c es) := by
  unfold eCall
  rw [ha, bnd_ok, hk, bnd_ok, if_pos ⟨hl, hm⟩, h]
theorem x_meth {o : Dt} {k : Nat} {zs : List Dt} {gD : List Dt → List Dt} {ms : Nat → Option Fn} {fo : FE} (hF : fn (gD (o :: zs)) = some (.ex c es)) (ho : EV fo ρ (.fro o)) (ha : AV fa ρ zs) (hx : o = .ins k ds) (hm : ms k = some (mfn n gD fn)) (hl : zs.length + 1 = n) : eMe ms fo fa ρ = some (.ex c es) := by
  subst hx
  show bnd (fo ρ) _ = _
  have hp : pickM ms (.fro (.ins k ds)) = some (k, ds, mfn n gD fn) := by
    unfold pickM; dsimp only; rw [hm]
  rw [ho, bnd_ok, hp]
  show bnd (fa ρ) _ = _
  rw [ha, bnd_ok]
  unfold mfn
  rw [if_pos (by rw [List.length_cons]; exact hl), hF]
theorem x_fn (h : F (args.map (fun d => some (.fro d)) ++ List.replicate nl none) = some (.xc c es ρ')) (hl : args.length = np := by rfl) : fnD np nl F args = some (.ex c es) := by rw [fnD_run hl, h]; rfl
theorem x_init {k nf : Nat} (h : F (some (.mk k []) :: (args.map (fun d => some (.fro d)) ++ List.replicate nl none)) = some (.xc c es ρ')) (hl : args.length = np := by rfl) : mkD k (fnI k nf np nl F) args = some (.ex c es) := by
  unfold mkD fnI
  rw [if_pos hl, h]; rfl
theorem x_ret (h : f ρ = some (.ex c es)) : sRet f ρ = some (.xc c es ρ) := by
  unfold sRet; rw [h]; rfl
theorem x_seq (h : F ρ = some (.xc c es ρ')) : sSeq F G ρ = some (.xc c es ρ') := by unfold sSeq; rw [h]
theorem x_nx (h : F ρ = some (.nx ρ')) : sSeq F G ρ = G ρ' := by unfold sSeq; rw [h]
theorem x_if (h : TV t ρ true) : sIf t F G ρ = F ρ := by unfold sIf; rw [h]; rfl
theorem x_ifn (h : TV t ρ false) : sIf t F G ρ = G ρ := by unfold sIf; rw [h]; rfl
theorem x_test (h : TV t ρ b) (hb : b = true) : sSeq (sIf t (sRaise c) sNext) G ρ = some (.xc c [] ρ) := x_seq ((x_if (hb ▸ h)).trans rfl)
theorem x_pass (h : TV t ρ b) (hb : b = false) : sSeq (sIf t (sRaise c) sNext) G ρ = G ρ := x_nx ((x_ifn (hb ▸ h)).trans rfl)
theorem x_try (h : F ρ = some (.xc c [] ρ')) (hi : i < ρ'.length) (hh : hit c = some true) (hr : res c = some b) : sSeq (sTry i hit res F) G ρ = some (.rt (.fro (.bl b))) := by
  unfold sSeq sTry
  rw [h]
  dsimp only
  rw [if_pos ⟨rfl, hi⟩, hh]
  dsimp only
  rw [hr]
theorem x_tryU (h : F ρ = some (.xc c es ρ')) (hh : hit c = some true) (hr : H ρ' = some (.rt r)) : sSeq (sTryU hit F H) G ρ = some (.rt r) := by
  unfold sSeq sTryU
  rw [h]
  dsimp only
  rw [hh]
  dsimp only
  rw [hr]
theorem x_out (h : F (args.map (fun d => some (.fro d)) ++ List.replicate nl none) = some (.rt r)) (hl : args.length = np := by rfl) : fnD np nl F args = some (.ok r) := by rw [fnD_run hl, h]; rfl
end
/-! ### the least, the greatest, the last -/
def minT : List Int → Int
  | [] => 0
  | n :: ns => ns.foldl min n
def maxT : List Int → Int
  | [] => 0
  | n :: ns => ns.foldl max n
def lastT {α : Type} [Inhabited α] (xs : List α) : α := xs.getLast?.getD default
theorem seqD_k {k : Kd} {ds : List Dt} : seqD (kR k ds) = some ds := by cases k <;> rfl
theorem g_minK {k : Kd} {xs : List Int} (h : xs ≠ []) : gMinL (kR k (xs.map qI)) = some (.ok (.fro (.int (minT xs)))) := by
  unfold gMinL
  rw [seqD_k]
  dsimp only
  rw [intsD_qI]
  cases xs with
  | nil => exact absurd rfl h
  | cons n ns => rfl
theorem g_maxK {k : Kd} {xs : List Int} (h : xs ≠ []) : gMaxL (kR k (xs.map qI)) = some (.ok (.fro (.int (maxT xs)))) := by
  unfold gMaxL
  rw [seqD_k]
  dsimp only
  rw [intsD_qI]
  cases xs with
  | nil => exact absurd rfl h
  | cons n ns => rfl
theorem g_minV {xs : List Int} (h : xs ≠ []) : gMinL (.fro (.tup (xs.map qI))) = some (.ok (.fro (.int (minT xs)))) := by
  unfold gMinL
  show (match intsD (xs.map qI) with | some (n :: ns) => vI (ns.foldl min n) | _ => none) = _
  rw [intsD_qI]
  cases xs with
  | nil => exact absurd rfl h
  | cons n ns => rfl
theorem g_maxV {xs : List Int} (h : xs ≠ []) : gMaxL (.fro (.tup (xs.map qI))) = some (.ok (.fro (.int (maxT xs)))) := by
  unfold gMaxL
  show (match intsD (xs.map qI) with | some (n :: ns) => vI (ns.foldl max n) | _ => none) = _
  rw [intsD_qI]
  cases xs with
  | nil => exact absurd rfl h
  | cons n ns => rfl
theorem st_popTo {α : Type} [Inhabited α] {n : Nat} {gg : GT} {e : α → Dt} {xs : List α} {ρ ρ' : PEnv} (h0 : ρ[n]? = some (some (.own (xs.map e)))) (h : xs ≠ []) (hg : gg (e (lastT xs)) (ρ.set n (some (.own (xs.dropLast.map e)))) = some ρ') : sPopTo gg n ρ = some (.nx ρ') := by
  unfold sPopTo
  rw [h0]
  dsimp only
  have e1 : (xs.map e).getLast? = some (e (lastT xs)) := by
    rw [List.getLast?_map, List.getLast?_eq_some_getLast h]
    unfold lastT
    rw [List.getLast?_eq_some_getLast h]; rfl
  rw [e1]
  dsimp only
  rw [← List.map_dropLast, hg]
end Pd

set_option maxHeartbeats 2000000
/-! QvE: lists that are lent. -/
namespace Pd
open PySem PySem.Spec L2
class NoL {α : Type} (e : α → Dt) : Prop where
  h : ∀ a, noL (e a) = true
theorem noLs_map {α : Type} {e : α → Dt} [n : NoL e] : ∀ xs : List α, noLs (xs.map e) = true
  | [] => rfl
  | x :: xs => by
    show (noL (e x) && noLs (xs.map e)) = true
    rw [n.h, noLs_map xs]; rfl
instance : NoL qI := ⟨fun _ => rfl⟩
instance : NoL qB := ⟨fun _ => rfl⟩
instance : NoL qS := ⟨fun _ => rfl⟩
instance : NoL qN := ⟨fun _ => rfl⟩
instance : NoL qT0 := ⟨fun _ => rfl⟩
section
variable {α β γ δ : Type} {e : α → Dt} {f : β → Dt} {g : γ → Dt} {h : δ → Dt}
instance [NoL e] : NoL (qV e) := ⟨fun xs => noLs_map xs⟩
instance [n : NoL e] : NoL (qO e) := ⟨fun o => by
  cases o with
  | none => rfl
  | some a => exact n.h a⟩
instance [n : NoL e] : NoL (qT1 e) := ⟨fun p => by simp [noL, noLs, n.h]⟩
instance [n : NoL e] [m : NoL f] : NoL (qT2 e f) := ⟨fun p => by simp [noL, noLs, n.h, m.h]⟩
instance [n : NoL e] [m : NoL f] [k : NoL g] : NoL (qT3 e f g) := ⟨fun p => by simp [noL, noLs, n.h, m.h, k.h]⟩
instance [n : NoL e] [m : NoL f] [k : NoL g] [l : NoL h] : NoL (qT4 e f g h) := ⟨fun p => by simp [noL, noLs, n.h, m.h, k.h, l.h]⟩
end
instance : NoL qFr := ⟨fun _ => rfl⟩
instance : NoL qPo := ⟨fun p => by
  have := noLs_map (e := qI) p.coefs
  simp [noL, noLs, this]⟩
instance : NoL qPo2 := ⟨fun p => by
  have := noLs_map (e := qPo) p.rows
  simp only [qPo2, noL, noLs, this]; rfl⟩
instance : NoL qQt := ⟨fun p => by
  have h1 := (inferInstance : NoL qPo).h p.num
  have h2 := (inferInstance : NoL qPo).h p.den
  show (noL (qPo p.num) && (noL (qPo p.den) && true)) = true
  rw [h1, h2]; rfl⟩
instance : NoL qTm := ⟨fun p => by
  have h1 := (inferInstance : NoL qFr).h p.first
  have h2 := (inferInstance : NoL qQt).h p.ratio
  show (true && (noL (qFr p.first) && (noL (qQt p.ratio) && true))) = true
  rw [h1, h2]; rfl⟩
instance : NoL qBs := ⟨fun p => by
  have h1 := (inferInstance : NoL qPo2).h p.weight
  have h2 := (inferInstance : NoL qFr).h p.base
  show (noL (qPo2 p.weight) && (noL (qFr p.base) && (true && (true && (true && true))))) = true
  rw [h1, h2]; rfl⟩
instance : NoL qOpr := ⟨fun p => by
  have := noLs_map (e := qPo) p.coefs
  simp only [qOpr, noL, noLs, this]; rfl⟩
instance : NoL qRw := ⟨fun p => by
  have h1 := (inferInstance : NoL qOpr).h p.operator
  have h2 := noLs_map (e := qFr) p.initial
  show (noL (qOpr p.operator) && (noLs (p.initial.map qFr) && true)) = true
  rw [h1, h2]; rfl⟩
theorem nl_fro {α : Type} {e : α → Dt} [n : NoL e] (a : α) : noR (.fro (e a)) = true := n.h a
theorem nl_own {α : Type} {e : α → Dt} [n : NoL e] (xs : List α) : noR (.own (xs.map e)) = true := noLs_map xs
section
variable {f : FE} {t : FT} {ρ ρ' : PEnv} {n : Nat} {ds : List Dt} {d : Dt} {r : Rs} {b : Bool} {k : Kd}
theorem ev_bor (h0 : ρ[n]? = some (some (.own ds))) (hρ : ρ.set n (some (.fro (.lst ds))) = ρ') (h : EV f ρ' r) (hn : noR r = true) : EV (eBor n f) ρ r := by
  subst hρ
  unfold EV eBor
  rw [h0]
  dsimp only
  rw [h]
  dsimp only
  rw [if_pos hn]
theorem ev_borF (h0 : ρ[n]? = some (some (.fro d))) (h : EV f ρ r) : EV (eBor n f) ρ r := by
  unfold EV eBor
  rw [h0]; exact h
theorem ev_borM (h0 : ρ[n]? = some (some (kC k ds))) (hρ : ρ.set n (some (.fro (.lst ds))) = ρ') (h : EV f ρ' r) (hn : noR r = true) : EV (eBor n f) ρ r := by
  cases k with
  | own => exact ev_bor h0 hρ h hn
  | bor => exact ev_bor h0 hρ h hn
  | fro =>
    have e : ρ.set n (some (.fro (.lst ds))) = ρ := by
      refine List.ext_getElem? fun j => ?_
      by_cases hj : n = j
      · subst hj
        rw [h0, List.getElem?_set_self (List.getElem?_eq_some_iff.mp h0).1]; rfl
      · rw [List.getElem?_set_ne hj]
    rw [e] at hρ
    subst hρ
    exact ev_borF h0 h
theorem tv_bor (h0 : ρ[n]? = some (some (.own ds))) (hρ : ρ.set n (some (.fro (.lst ds))) = ρ') (h : TV t ρ' b) : TV (tBor n t) ρ b := by
  subst hρ
  unfold TV tBor
  rw [h0]
  dsimp only
  rw [h]
theorem tv_borF (h0 : ρ[n]? = some (some (.fro d))) (h : TV t ρ b) : TV (tBor n t) ρ b := by
  unfold TV tBor
  rw [h0]; exact h
theorem tv_borM (h0 : ρ[n]? = some (some (kC k ds))) (hρ : ρ.set n (some (.fro (.lst ds))) = ρ') (h : TV t ρ' b) : TV (tBor n t) ρ b := by
  cases k with
  | own => exact tv_bor h0 hρ h
  | bor => exact tv_bor h0 hρ h
  | fro =>
    have e : ρ.set n (some (.fro (.lst ds))) = ρ := by
      refine List.ext_getElem? fun j => ?_
      by_cases hj : n = j
      · subst hj
        rw [h0, List.getElem?_set_self (List.getElem?_eq_some_iff.mp h0).1]; rfl
      · rw [List.getElem?_set_ne hj]
    rw [e] at hρ
    subst hρ
    exact tv_borF h0 h
end
end Pd

set_option maxHeartbeats 2000000
/-! QvF: sorted, not in. -/
namespace Pd
open PySem PySem.Spec L2
theorem g_sorted {k : Kd} {xs : List Int} (h : xs.length < 64) : gSorted (kR k (xs.map qI)) = some (.ok (.own ((sortI xs).map qI))) := by
  unfold gSorted
  rw [kR_asL]
  dsimp only
  rw [intsD_qI]
  dsimp only
  rw [if_pos h]
theorem g_notInK {α : Type} {k : Kd} {e : α → Dt} [P : PyE e] [DecidableEq α] {a : α} {xs : List α} (hd : P.dep ≤ 63 := by decide) : gNotInD (.fro (e a)) (kR k (xs.map e)) = some (.ok (.fro (.bl (!decide (a ∈ xs))))) := by
  have h := g_inK (k := k) (e := e) (a := a) (xs := xs) hd
  unfold gInD at h
  unfold gNotInD
  split at h
  · rename_i x bs h1 h2
    split at h
    · rename_i hs
      rw [if_pos hs]
      unfold vB at h ⊢
      have h3 := Ex.ok.inj (Option.some.inj h)
      have h4 := Rs.fro.inj h3
      have h5 := Dt.bl.inj h4
      rw [h5]
    · cases h
  · cases h
def part {α : Type} (xs : List α) (lo hi : Option Int) : Prop := ¬ (HT.sIx xs.length 0 lo = 0 ∧ HT.sIx xs.length xs.length hi = xs.length)
theorem ev_slV {f : FE} {ρ : PEnv} {α : Type} {e : α → Dt} {xs : List α} {lo hi : FO} {l m : Option Int} (hf : EV f ρ (.fro (.tup (xs.map e)))) (h1 : OV lo ρ l) (h2 : OV hi ρ m) (hp : part xs l m) : EV (eSl f lo hi) ρ (.fro (.tup ((cutT xs l m).map e))) := by
  show bnd (f ρ) _ = _
  rw [hf, bnd_ok, h1, bnd_ok, h2, bnd_ok, ← cut_map]
  unfold gSl
  dsimp only
  rw [if_pos (by rw [List.length_map]; exact hp)]
end Pd

set_option maxHeartbeats 2000000
/-! QvG: a named handler with a test. -/
namespace Pd
open PySem PySem.Spec L2
theorem x_tryIf {F G : FS} {ρ ρ' ρ'' : PEnv} {c i : Nat} {hit res : Nat → Option Bool} (h : F ρ = some (.xc c [] ρ')) (hi : i < ρ'.length) (hh : hit c = some true) (hr : res c = some true) (hG : G (ρ'.set i none) = some (.nx ρ'')) : sTryIf i hit res F G ρ = some (.nx (ρ''.set i none)) := by
  unfold sTryIf
  rw [h]
  dsimp only
  rw [if_pos ⟨rfl, hi⟩, hh]
  dsimp only
  rw [hr]
  dsimp only
  rw [hG]
  rfl
end Pd


set_option maxHeartbeats 2000000
/-! QL: typed functions that several laws share, printed by qv.py. -/
namespace Pd
open PySem PySem.Spec L2
noncomputable def q_law_numbers_2 (script' : List Int) (count' : Int) (rest' : Int) : Int :=
  (gt script' (0 : Int))
def v_law_numbers_2 (script' : List Int) (count' : Int) (rest' : Int) : Prop :=
  inR script' (0 : Int)
noncomputable def q_law_numbers_3 (script' : List Int) (count' : Int) (rest' : Int) : Int :=
  if (decide ((script'.length : Int) > (0 : Int))) then q_law_numbers_2 script' count' rest' else rest'
noncomputable def q_law_numbers_9 (script' : List Int) (rest' : Int) (by_digits' : Bool) (numbers_here' : List Int) : Int × (List Int) :=
  ((Int.fdiv rest' (1000000 : Int)), numbers_here')
noncomputable def q_law_numbers_8 (script' : List Int) (rest' : Int) (by_digits' : Bool) (numbers_here' : List Int) : Int × (List Int) :=
  q_law_numbers_9 script' rest' by_digits' (numbers_here' ++ [(Int.fmod rest' (1000000 : Int))])
def v_law_numbers_8 (script' : List Int) (rest' : Int) (by_digits' : Bool) (numbers_here' : List Int) : Prop :=
  numbers_here'.length < LINE
noncomputable def q_law_numbers_12 (script' : List Int) (rest' : Int) (by_digits' : Bool) (numbers_here' : List Int) (k' : Int) (cell' : Int) : Int :=
  ((gt script' (Int.fmod k' (script'.length : Int))) + ((7919 : Int) * k'))
def v_law_numbers_12 (script' : List Int) (rest' : Int) (by_digits' : Bool) (numbers_here' : List Int) (k' : Int) (cell' : Int) : Prop :=
  ((script'.length : Int) ≠ 0 ∧ inR script' (Int.fmod k' (script'.length : Int)) ∧ mulOk (7919 : Int) k' = true)
noncomputable def q_law_numbers_13 (script' : List Int) (rest' : Int) (by_digits' : Bool) (numbers_here' : List Int) (k' : Int) (cell' : Int) : Int :=
  if (decide ((script'.length : Int) > (0 : Int))) then q_law_numbers_12 script' rest' by_digits' numbers_here' k' cell' else cell'
noncomputable def q_law_numbers_14 (script' : List Int) (rest' : Int) (by_digits' : Bool) (numbers_here' : List Int) (cell' : Int) : Int × (List Int) :=
  (rest', (numbers_here' ++ [(Int.fmod (Int.fmod ((Int.fmod (cell' * (48271 : Int)) (2147483647 : Int)) * (69621 : Int)) (2147483629 : Int)) (1000000 : Int))]))
def v_law_numbers_14 (script' : List Int) (rest' : Int) (by_digits' : Bool) (numbers_here' : List Int) (cell' : Int) : Prop :=
  (mulOk cell' (48271 : Int) = true ∧ mulOk (Int.fmod (cell' * (48271 : Int)) (2147483647 : Int)) (69621 : Int) = true ∧ numbers_here'.length < LINE)
noncomputable def q_law_numbers_11 (script' : List Int) (rest' : Int) (by_digits' : Bool) (numbers_here' : List Int) (k' : Int) (cell' : Int) : Int × (List Int) :=
  q_law_numbers_14 script' rest' by_digits' numbers_here' (q_law_numbers_13 script' rest' by_digits' numbers_here' k' cell')
def v_law_numbers_11 (script' : List Int) (rest' : Int) (by_digits' : Bool) (numbers_here' : List Int) (k' : Int) (cell' : Int) : Prop :=
  (((decide ((script'.length : Int) > (0 : Int))) = true → v_law_numbers_12 script' rest' by_digits' numbers_here' k' cell') ∧ v_law_numbers_14 script' rest' by_digits' numbers_here' (q_law_numbers_13 script' rest' by_digits' numbers_here' k' cell'))
noncomputable def q_law_numbers_10 (script' : List Int) (rest' : Int) (by_digits' : Bool) (numbers_here' : List Int) (k' : Int) : Int × (List Int) :=
  q_law_numbers_11 script' rest' by_digits' numbers_here' k' (13 : Int)
def v_law_numbers_10 (script' : List Int) (rest' : Int) (by_digits' : Bool) (numbers_here' : List Int) (k' : Int) : Prop :=
  v_law_numbers_11 script' rest' by_digits' numbers_here' k' (13 : Int)
noncomputable def q_law_numbers_7 (script' : List Int) (rest' : Int) (by_digits' : Bool) (numbers_here' : List Int) (k' : Int) : Int × (List Int) :=
  if (by_digits' && (decide (rest' > (0 : Int)))) then q_law_numbers_8 script' rest' by_digits' numbers_here' else q_law_numbers_10 script' rest' by_digits' numbers_here' k'
def v_law_numbers_7 (script' : List Int) (rest' : Int) (by_digits' : Bool) (numbers_here' : List Int) (k' : Int) : Prop :=
  (((by_digits' && (decide (rest' > (0 : Int)))) = true → v_law_numbers_8 script' rest' by_digits' numbers_here') ∧ ((by_digits' && (decide (rest' > (0 : Int)))) = false → v_law_numbers_10 script' rest' by_digits' numbers_here' k'))
noncomputable def q_law_numbers_15 (script' : List Int) (count' : Int) (rest' : Int) (by_digits' : Bool) (numbers_here' : List Int) : Int × (List Int) :=
  (rngT 0 count').foldl (fun (s5 : Int × (List Int)) (x6 : Int) => q_law_numbers_7 script' s5.1 by_digits' s5.2 x6) (rest', numbers_here')
noncomputable def q_law_numbers_16 (numbers_here' : List Int) : List Int :=
  numbers_here'
noncomputable def q_law_numbers_6 (script' : List Int) (count' : Int) (rest' : Int) (by_digits' : Bool) (numbers_here' : List Int) : List Int :=
  q_law_numbers_16 ((q_law_numbers_15 script' count' rest' by_digits' numbers_here').2)
def v_law_numbers_6 (script' : List Int) (count' : Int) (rest' : Int) (by_digits' : Bool) (numbers_here' : List Int) : Prop :=
  (rOk count' = true ∧ forV (fun (s5 : Int × (List Int)) (x6 : Int) => v_law_numbers_7 script' s5.1 by_digits' s5.2 x6) (fun (s5 : Int × (List Int)) (x6 : Int) => q_law_numbers_7 script' s5.1 by_digits' s5.2 x6) (rngT 0 count') (rest', numbers_here'))
noncomputable def q_law_numbers_5 (script' : List Int) (count' : Int) (rest' : Int) (by_digits' : Bool) : List Int :=
  q_law_numbers_6 script' count' rest' by_digits' ([] : List Int)
def v_law_numbers_5 (script' : List Int) (count' : Int) (rest' : Int) (by_digits' : Bool) : Prop :=
  v_law_numbers_6 script' count' rest' by_digits' ([] : List Int)
noncomputable def q_law_numbers_4 (script' : List Int) (count' : Int) (rest' : Int) : List Int :=
  q_law_numbers_5 script' count' rest' (decide (rest' ≥ (1000000000000000000 : Int)))
def v_law_numbers_4 (script' : List Int) (count' : Int) (rest' : Int) : Prop :=
  v_law_numbers_5 script' count' rest' (decide (rest' ≥ (1000000000000000000 : Int)))
noncomputable def q_law_numbers_1 (script' : List Int) (count' : Int) (rest' : Int) : List Int :=
  q_law_numbers_4 script' count' (q_law_numbers_3 script' count' rest')
def v_law_numbers_1 (script' : List Int) (count' : Int) (rest' : Int) : Prop :=
  (((decide ((script'.length : Int) > (0 : Int))) = true → v_law_numbers_2 script' count' rest') ∧ v_law_numbers_4 script' count' (q_law_numbers_3 script' count' rest'))
noncomputable def q_law_numbers_0 (script' : List Int) (count' : Int) : List Int :=
  q_law_numbers_1 script' count' (0 : Int)
def v_law_numbers_0 (script' : List Int) (count' : Int) : Prop :=
  v_law_numbers_1 script' count' (0 : Int)
noncomputable def q_law_numbers (script' : List Int) (count' : Int) : List Int :=
  q_law_numbers_0 script' count'
def v_law_numbers (script' : List Int) (count' : Int) : Prop :=
  v_law_numbers_0 script' count'
noncomputable def q_law_coefs_4 (numbers_here' : List Int) (start' : Int) (coefs_here' : List Int) : (List Int) :=
  (coefs_here' ++ [(0 : Int)])
def v_law_coefs_4 (numbers_here' : List Int) (start' : Int) (coefs_here' : List Int) : Prop :=
  coefs_here'.length < LINE
noncomputable def q_law_coefs_5 (numbers_here' : List Int) (start' : Int) (coefs_here' : List Int) (number' : Int) : (List Int) :=
  (coefs_here' ++ [((Int.fmod (Int.fdiv number' (4 : Int)) (25 : Int)) - (12 : Int))])
def v_law_coefs_5 (numbers_here' : List Int) (start' : Int) (coefs_here' : List Int) (number' : Int) : Prop :=
  coefs_here'.length < LINE
noncomputable def q_law_coefs_3 (numbers_here' : List Int) (start' : Int) (coefs_here' : List Int) (number' : Int) : (List Int) :=
  if (decide ((Int.fmod number' (4 : Int)) = (1 : Int))) then q_law_coefs_4 numbers_here' start' coefs_here' else q_law_coefs_5 numbers_here' start' coefs_here' number'
def v_law_coefs_3 (numbers_here' : List Int) (start' : Int) (coefs_here' : List Int) (number' : Int) : Prop :=
  (((decide ((Int.fmod number' (4 : Int)) = (1 : Int))) = true → v_law_coefs_4 numbers_here' start' coefs_here') ∧ ((decide ((Int.fmod number' (4 : Int)) = (1 : Int))) = false → v_law_coefs_5 numbers_here' start' coefs_here' number'))
noncomputable def q_law_coefs_2 (numbers_here' : List Int) (start' : Int) (coefs_here' : List Int) (k' : Int) : (List Int) :=
  q_law_coefs_3 numbers_here' start' coefs_here' (gt numbers_here' (start' + k'))
def v_law_coefs_2 (numbers_here' : List Int) (start' : Int) (coefs_here' : List Int) (k' : Int) : Prop :=
  (inR numbers_here' (start' + k') ∧ v_law_coefs_3 numbers_here' start' coefs_here' (gt numbers_here' (start' + k')))
noncomputable def q_law_coefs_6 (numbers_here' : List Int) (start' : Int) (size' : Int) (coefs_here' : List Int) : (List Int) :=
  (rngT 0 size').foldl (fun (s2 : (List Int)) (x3 : Int) => q_law_coefs_2 numbers_here' start' s2 x3) coefs_here'
noncomputable def q_law_coefs_7 (coefs_here' : List Int) : List Int :=
  coefs_here'
noncomputable def q_law_coefs_1 (numbers_here' : List Int) (start' : Int) (size' : Int) (coefs_here' : List Int) : List Int :=
  q_law_coefs_7 (q_law_coefs_6 numbers_here' start' size' coefs_here')
def v_law_coefs_1 (numbers_here' : List Int) (start' : Int) (size' : Int) (coefs_here' : List Int) : Prop :=
  (rOk size' = true ∧ forV (fun (s2 : (List Int)) (x3 : Int) => v_law_coefs_2 numbers_here' start' s2 x3) (fun (s2 : (List Int)) (x3 : Int) => q_law_coefs_2 numbers_here' start' s2 x3) (rngT 0 size') coefs_here')
noncomputable def q_law_coefs_0 (numbers_here' : List Int) (start' : Int) (size' : Int) : List Int :=
  q_law_coefs_1 numbers_here' start' size' ([] : List Int)
def v_law_coefs_0 (numbers_here' : List Int) (start' : Int) (size' : Int) : Prop :=
  v_law_coefs_1 numbers_here' start' size' ([] : List Int)
noncomputable def q_law_coefs (numbers_here' : List Int) (start' : Int) (size' : Int) : List Int :=
  q_law_coefs_0 numbers_here' start' size'
def v_law_coefs (numbers_here' : List Int) (start' : Int) (size' : Int) : Prop :=
  v_law_coefs_0 numbers_here' start' size'
noncomputable def q_trimmed_2 (numbers' : List Int) (size' : Int) : Int :=
  (size' - (1 : Int))
noncomputable def q_trimmed_3 (numbers' : List Int) (size' : Int) : Int :=
  wh (fun (s1 : Int) => ((decide (s1 > (0 : Int))) && (decide ((gt numbers' (s1 - (1 : Int))) = (0 : Int))))) (fun (s1 : Int) => q_trimmed_2 numbers' s1) size'
noncomputable def q_trimmed_4 (numbers' : List Int) (size' : Int) : List Int :=
  (cutT numbers' none (some size'))
noncomputable def q_trimmed_1 (numbers' : List Int) (size' : Int) : List Int :=
  q_trimmed_4 numbers' (q_trimmed_3 numbers' size')
def v_trimmed_1 (numbers' : List Int) (size' : Int) : Prop :=
  whV (fun (s1 : Int) => ((decide (s1 > (0 : Int))) && (decide ((gt numbers' (s1 - (1 : Int))) = (0 : Int))))) (fun (s1 : Int) => ((decide (s1 > (0 : Int))) = true → inR numbers' (s1 - (1 : Int)))) (fun (s1 : Int) => q_trimmed_2 numbers' s1) (fun (s1 : Int) => True) size'
noncomputable def q_trimmed_0 (numbers' : List Int) : List Int :=
  q_trimmed_1 numbers' (numbers'.length : Int)
def v_trimmed_0 (numbers' : List Int) : Prop :=
  v_trimmed_1 numbers' (numbers'.length : Int)
noncomputable def q_trimmed (numbers' : List Int) : List Int :=
  q_trimmed_0 numbers'
def v_trimmed (numbers' : List Int) : Prop :=
  v_trimmed_0 numbers'
noncomputable def q_content_2 (divisor' : Int) (number' : Int) : Int :=
  (Int.gcd divisor' number' : Int)
noncomputable def q_content_3 (numbers' : List Int) (divisor' : Int) : Int :=
  numbers'.foldl (fun (s1 : Int) (x2 : Int) => q_content_2 s1 x2) divisor'
noncomputable def q_content_4 (divisor' : Int) : Int :=
  divisor'
noncomputable def q_content_1 (numbers' : List Int) (divisor' : Int) : Int :=
  q_content_4 (q_content_3 numbers' divisor')
noncomputable def q_content_0 (numbers' : List Int) : Int :=
  q_content_1 numbers' (0 : Int)
noncomputable def q_content (numbers' : List Int) : Int :=
  q_content_0 numbers'
noncomputable def q_Poly_init_4 (den' : Int) (numbers' : List Int) (divisor' : Int) : Int :=
  (-divisor')
noncomputable def q_Poly_init_5 (den' : Int) (numbers' : List Int) (divisor' : Int) : Int :=
  if (decide (den' < (0 : Int))) then q_Poly_init_4 den' numbers' divisor' else divisor'
noncomputable def q_Poly_init_7 (den' : Int) (divisor' : Int) (sf_coefs : List Int) : (List Int) × Int :=
  (sf_coefs, (Int.fdiv den' divisor'))
def v_Poly_init_7 (den' : Int) (divisor' : Int) (sf_coefs : List Int) : Prop :=
  divisor' ≠ 0
noncomputable def q_Poly_init_6 (den' : Int) (numbers' : List Int) (divisor' : Int) : (List Int) × Int :=
  q_Poly_init_7 den' divisor' (numbers'.map fun (x3 : Int) => (Int.fdiv x3 divisor'))
def v_Poly_init_6 (den' : Int) (numbers' : List Int) (divisor' : Int) : Prop :=
  ((∀ x3, x3 ∈ numbers' → divisor' ≠ 0) ∧ numbers'.length ≤ LINE ∧ v_Poly_init_7 den' divisor' (numbers'.map fun (x3 : Int) => (Int.fdiv x3 divisor')))
noncomputable def q_Poly_init_3 (den' : Int) (numbers' : List Int) (divisor' : Int) : (List Int) × Int :=
  q_Poly_init_6 den' numbers' (q_Poly_init_5 den' numbers' divisor')
def v_Poly_init_3 (den' : Int) (numbers' : List Int) (divisor' : Int) : Prop :=
  v_Poly_init_6 den' numbers' (q_Poly_init_5 den' numbers' divisor')
noncomputable def q_Poly_init_2 (den' : Int) (numbers' : List Int) : (List Int) × Int :=
  q_Poly_init_3 den' numbers' (Int.gcd (q_content numbers') den' : Int)
def v_Poly_init_2 (den' : Int) (numbers' : List Int) : Prop :=
  v_Poly_init_3 den' numbers' (Int.gcd (q_content numbers') den' : Int)
noncomputable def q_Poly_init_1 (coefs' : List Int) (den' : Int) : (List Int) × Int :=
  q_Poly_init_2 den' (q_trimmed coefs')
def v_Poly_init_1 (coefs' : List Int) (den' : Int) : Prop :=
  (v_trimmed coefs' ∧ v_Poly_init_2 den' (q_trimmed coefs'))
noncomputable def q_Poly_init_0 (coefs' : List Int) (den' : Int) : (List Int) × Int :=
  q_Poly_init_1 coefs' den'
def v_Poly_init_0 (coefs' : List Int) (den' : Int) : Prop :=
  ((decide (den' = (0 : Int))) = false ∧ v_Poly_init_1 coefs' den')
noncomputable def q_Poly_init (coefs' : List Int) (den' : Int) : Po :=
  ⟨(q_Poly_init_0 coefs' den').1, (q_Poly_init_0 coefs' den').2⟩
def v_Poly_init (coefs' : List Int) (den' : Int) : Prop :=
  v_Poly_init_0 coefs' den'
noncomputable def q_Poly_add_4 (self' : Po) (other' : Po) (numbers' : List Int) : Po :=
  q_Poly_init numbers' (self'.den * other'.den)
def v_Poly_add_4 (self' : Po) (other' : Po) (numbers' : List Int) : Prop :=
  (mulOk self'.den other'.den = true ∧ v_Poly_init numbers' (self'.den * other'.den))
noncomputable def q_Poly_add_3 (self' : Po) (other' : Po) (first' : List Int) (second' : List Int) : Po :=
  q_Poly_add_4 self' other' ((first'.zip second').map fun (x1 : Int × Int) => ((x1.1 * other'.den) + (x1.2 * self'.den)))
def v_Poly_add_3 (self' : Po) (other' : Po) (first' : List Int) (second' : List Int) : Prop :=
  ((∀ x1, x1 ∈ (first'.zip second') → (mulOk x1.1 other'.den = true ∧ mulOk x1.2 self'.den = true)) ∧ (first'.zip second').length ≤ LINE ∧ v_Poly_add_4 self' other' ((first'.zip second').map fun (x1 : Int × Int) => ((x1.1 * other'.den) + (x1.2 * self'.den))))
noncomputable def q_Poly_add_2 (self' : Po) (other' : Po) (size' : Int) (first' : List Int) : Po :=
  q_Poly_add_3 self' other' first' (other'.coefs ++ (repT ([(0 : Int)]) (size' - (other'.coefs.length : Int))))
def v_Poly_add_2 (self' : Po) (other' : Po) (size' : Int) (first' : List Int) : Prop :=
  (((size' - (other'.coefs.length : Int)) < 2 ^ 62 ∧ -(2 ^ 62) ≤ (size' - (other'.coefs.length : Int))) ∧ ([(0 : Int)]).length * (size' - (other'.coefs.length : Int)).toNat ≤ LINE ∧ other'.coefs.length + (repT ([(0 : Int)]) (size' - (other'.coefs.length : Int))).length ≤ LINE ∧ v_Poly_add_3 self' other' first' (other'.coefs ++ (repT ([(0 : Int)]) (size' - (other'.coefs.length : Int)))))
noncomputable def q_Poly_add_1 (self' : Po) (other' : Po) (size' : Int) : Po :=
  q_Poly_add_2 self' other' size' (self'.coefs ++ (repT ([(0 : Int)]) (size' - (self'.coefs.length : Int))))
def v_Poly_add_1 (self' : Po) (other' : Po) (size' : Int) : Prop :=
  (((size' - (self'.coefs.length : Int)) < 2 ^ 62 ∧ -(2 ^ 62) ≤ (size' - (self'.coefs.length : Int))) ∧ ([(0 : Int)]).length * (size' - (self'.coefs.length : Int)).toNat ≤ LINE ∧ self'.coefs.length + (repT ([(0 : Int)]) (size' - (self'.coefs.length : Int))).length ≤ LINE ∧ v_Poly_add_2 self' other' size' (self'.coefs ++ (repT ([(0 : Int)]) (size' - (self'.coefs.length : Int)))))
noncomputable def q_Poly_add_0 (self' : Po) (other' : Po) : Po :=
  q_Poly_add_1 self' other' (max (self'.coefs.length : Int) (other'.coefs.length : Int))
def v_Poly_add_0 (self' : Po) (other' : Po) : Prop :=
  v_Poly_add_1 self' other' (max (self'.coefs.length : Int) (other'.coefs.length : Int))
noncomputable def q_Poly_add (self' : Po) (other' : Po) : Po :=
  q_Poly_add_0 self' other'
def v_Poly_add (self' : Po) (other' : Po) : Prop :=
  v_Poly_add_0 self' other'
noncomputable def q_law_sum_3 (a' : List Int) (b' : List Int) (factor_a' : Int) (factor_b' : Int) (result' : List Int) (k' : Int) : (List Int) :=
  setT result' k' ((gt result' k') + (factor_a' * (gt a' k')))
def v_law_sum_3 (a' : List Int) (b' : List Int) (factor_a' : Int) (factor_b' : Int) (result' : List Int) (k' : Int) : Prop :=
  (inR result' k' ∧ inR a' k' ∧ mulOk factor_a' (gt a' k') = true ∧ inR result' k')
noncomputable def q_law_sum_4 (a' : List Int) (b' : List Int) (factor_a' : Int) (factor_b' : Int) (result' : List Int) : (List Int) :=
  (rngT 0 (a'.length : Int)).foldl (fun (s3 : (List Int)) (x4 : Int) => q_law_sum_3 a' b' factor_a' factor_b' s3 x4) result'
noncomputable def q_law_sum_6 (b' : List Int) (factor_b' : Int) (result' : List Int) (k' : Int) : (List Int) :=
  setT result' k' ((gt result' k') + (factor_b' * (gt b' k')))
def v_law_sum_6 (b' : List Int) (factor_b' : Int) (result' : List Int) (k' : Int) : Prop :=
  (inR result' k' ∧ inR b' k' ∧ mulOk factor_b' (gt b' k') = true ∧ inR result' k')
noncomputable def q_law_sum_7 (b' : List Int) (factor_b' : Int) (result' : List Int) : (List Int) :=
  (rngT 0 (b'.length : Int)).foldl (fun (s6 : (List Int)) (x7 : Int) => q_law_sum_6 b' factor_b' s6 x7) result'
noncomputable def q_law_sum_8 (result' : List Int) : List Int :=
  result'
noncomputable def q_law_sum_5 (b' : List Int) (factor_b' : Int) (result' : List Int) : List Int :=
  q_law_sum_8 (q_law_sum_7 b' factor_b' result')
def v_law_sum_5 (b' : List Int) (factor_b' : Int) (result' : List Int) : Prop :=
  (rOk (b'.length : Int) = true ∧ forV (fun (s6 : (List Int)) (x7 : Int) => v_law_sum_6 b' factor_b' s6 x7) (fun (s6 : (List Int)) (x7 : Int) => q_law_sum_6 b' factor_b' s6 x7) (rngT 0 (b'.length : Int)) result')
noncomputable def q_law_sum_2 (a' : List Int) (b' : List Int) (factor_a' : Int) (factor_b' : Int) (result' : List Int) : List Int :=
  q_law_sum_5 b' factor_b' (q_law_sum_4 a' b' factor_a' factor_b' result')
def v_law_sum_2 (a' : List Int) (b' : List Int) (factor_a' : Int) (factor_b' : Int) (result' : List Int) : Prop :=
  (rOk (a'.length : Int) = true ∧ forV (fun (s3 : (List Int)) (x4 : Int) => v_law_sum_3 a' b' factor_a' factor_b' s3 x4) (fun (s3 : (List Int)) (x4 : Int) => q_law_sum_3 a' b' factor_a' factor_b' s3 x4) (rngT 0 (a'.length : Int)) result' ∧ v_law_sum_5 b' factor_b' (q_law_sum_4 a' b' factor_a' factor_b' result'))
noncomputable def q_law_sum_1 (a' : List Int) (b' : List Int) (factor_a' : Int) (factor_b' : Int) (size' : Int) : List Int :=
  q_law_sum_2 a' b' factor_a' factor_b' ((rngT 0 size').map fun (x1 : Int) => (0 : Int))
def v_law_sum_1 (a' : List Int) (b' : List Int) (factor_a' : Int) (factor_b' : Int) (size' : Int) : Prop :=
  (rOk size' = true ∧ (rngT 0 size').length ≤ LINE ∧ v_law_sum_2 a' b' factor_a' factor_b' ((rngT 0 size').map fun (x1 : Int) => (0 : Int)))
noncomputable def q_law_sum_0 (a' : List Int) (b' : List Int) (factor_a' : Int) (factor_b' : Int) : List Int :=
  q_law_sum_1 a' b' factor_a' factor_b' (max (a'.length : Int) (b'.length : Int))
def v_law_sum_0 (a' : List Int) (b' : List Int) (factor_a' : Int) (factor_b' : Int) : Prop :=
  v_law_sum_1 a' b' factor_a' factor_b' (max (a'.length : Int) (b'.length : Int))
noncomputable def q_law_sum (a' : List Int) (b' : List Int) (factor_a' : Int) (factor_b' : Int) : List Int :=
  q_law_sum_0 a' b' factor_a' factor_b'
def v_law_sum (a' : List Int) (b' : List Int) (factor_a' : Int) (factor_b' : Int) : Prop :=
  v_law_sum_0 a' b' factor_a' factor_b'
noncomputable def q_law_is_integer_0 (x' : Int) : Bool :=
  (true && (!false))
noncomputable def q_law_is_integer (x' : Int) : Bool :=
  q_law_is_integer_0 x'
noncomputable def q_law_divisor_5 (a' : Int) (b' : Int) (rest' : Int) : Int × Int :=
  (a', rest')
noncomputable def q_law_divisor_4 (a' : Int) (b' : Int) (rest' : Int) : Int × Int :=
  q_law_divisor_5 b' b' rest'
noncomputable def q_law_divisor_3 (a' : Int) (b' : Int) : Int × Int :=
  q_law_divisor_4 a' b' (Int.fmod a' b')
def v_law_divisor_3 (a' : Int) (b' : Int) : Prop :=
  b' ≠ 0
noncomputable def q_law_divisor_6 (a' : Int) (b' : Int) : Int × Int :=
  wh (fun (s1 : Int × Int) => (decide (s1.2 > (0 : Int)))) (fun (s1 : Int × Int) => q_law_divisor_3 s1.1 s1.2) (a', b')
noncomputable def q_law_divisor_7 (a' : Int) : Int :=
  a'
noncomputable def q_law_divisor_2 (a' : Int) (b' : Int) : Int :=
  q_law_divisor_7 ((q_law_divisor_6 a' b').1)
def v_law_divisor_2 (a' : Int) (b' : Int) : Prop :=
  whV (fun (s1 : Int × Int) => (decide (s1.2 > (0 : Int)))) (fun (s1 : Int × Int) => True) (fun (s1 : Int × Int) => q_law_divisor_3 s1.1 s1.2) (fun (s1 : Int × Int) => v_law_divisor_3 s1.1 s1.2) (a', b')
noncomputable def q_law_divisor_1 (a' : Int) (b' : Int) : Int :=
  q_law_divisor_2 a' (b'.natAbs : Int)
def v_law_divisor_1 (a' : Int) (b' : Int) : Prop :=
  v_law_divisor_2 a' (b'.natAbs : Int)
noncomputable def q_law_divisor_0 (a' : Int) (b' : Int) : Int :=
  q_law_divisor_1 (a'.natAbs : Int) b'
def v_law_divisor_0 (a' : Int) (b' : Int) : Prop :=
  v_law_divisor_1 (a'.natAbs : Int) b'
noncomputable def q_law_divisor (a' : Int) (b' : Int) : Int :=
  q_law_divisor_0 a' b'
def v_law_divisor (a' : Int) (b' : Int) : Prop :=
  v_law_divisor_0 a' b'
noncomputable def q_law_poly_is_1  : Bool :=
  false
noncomputable def q_law_poly_is_5  : Bool :=
  false
noncomputable def q_law_poly_is_6 (p' : Po) (coefs_here' : List Int) (den' : Int) (shared' : Int) (number' : Int) : Int :=
  q_law_divisor shared' number'
def v_law_poly_is_6 (p' : Po) (coefs_here' : List Int) (den' : Int) (shared' : Int) (number' : Int) : Prop :=
  v_law_divisor shared' number'
noncomputable def q_law_poly_is_4 (p' : Po) (coefs_here' : List Int) (den' : Int) (shared' : Int) (number' : Int) : Fl Int Int Bool :=
  if (!(q_law_is_integer number')) then .rt q_law_poly_is_5 else .nx (q_law_poly_is_6 p' coefs_here' den' shared' number')
def v_law_poly_is_4 (p' : Po) (coefs_here' : List Int) (den' : Int) (shared' : Int) (number' : Int) : Prop :=
  ((!(q_law_is_integer number')) = false → v_law_poly_is_6 p' coefs_here' den' shared' number')
noncomputable def q_law_poly_is_7 (p' : Po) (coefs_here' : List Int) (den' : Int) (shared' : Int) : Fl Int Empty Bool :=
  forX (fun (s6 : Int) (x7 : Int) => q_law_poly_is_4 p' coefs_here' den' s6 x7) p'.coefs shared'
noncomputable def q_law_poly_is_9  : Bool :=
  false
noncomputable def q_law_poly_is_15  : Bool :=
  false
noncomputable def q_law_poly_is_14 (p' : Po) (den' : Int) (mine' : List Int) (k' : Int) (due' : List Int) : Fl Unit Unit Bool :=
  if (!decide (((gt mine' k') * den') = ((gt due' k') * p'.den))) then .rt q_law_poly_is_15 else .nx ()
def v_law_poly_is_14 (p' : Po) (den' : Int) (mine' : List Int) (k' : Int) (due' : List Int) : Prop :=
  (inR mine' k' ∧ mulOk (gt mine' k') den' = true ∧ inR due' k' ∧ mulOk (gt due' k') p'.den = true)
noncomputable def q_law_poly_is_16 (p' : Po) (den' : Int) (size' : Int) (mine' : List Int) (due' : List Int) : Fl Unit Empty Bool :=
  forX (fun (s18 : Unit) (x19 : Int) => q_law_poly_is_14 p' den' mine' x19 due') (rngT 0 size') ()
noncomputable def q_law_poly_is_17  : Bool :=
  true
noncomputable def q_law_poly_is_13 (p' : Po) (den' : Int) (size' : Int) (mine' : List Int) (due' : List Int) : Bool :=
  (q_law_poly_is_16 p' den' size' mine' due').fin fun s21 => q_law_poly_is_17
def v_law_poly_is_13 (p' : Po) (den' : Int) (size' : Int) (mine' : List Int) (due' : List Int) : Prop :=
  (rOk size' = true ∧ forVX (fun (s18 : Unit) (x19 : Int) => v_law_poly_is_14 p' den' mine' x19 due') (fun (s18 : Unit) (x19 : Int) => q_law_poly_is_14 p' den' mine' x19 due') (rngT 0 size') ())
noncomputable def q_law_poly_is_12 (p' : Po) (coefs_here' : List Int) (den' : Int) (size' : Int) (mine' : List Int) : Bool :=
  q_law_poly_is_13 p' den' size' mine' (coefs_here' ++ ((rngT 0 (size' - (coefs_here'.length : Int))).map fun (x15 : Int) => (0 : Int)))
def v_law_poly_is_12 (p' : Po) (coefs_here' : List Int) (den' : Int) (size' : Int) (mine' : List Int) : Prop :=
  (rOk (size' - (coefs_here'.length : Int)) = true ∧ (rngT 0 (size' - (coefs_here'.length : Int))).length ≤ LINE ∧ coefs_here'.length + ((rngT 0 (size' - (coefs_here'.length : Int))).map fun (x15 : Int) => (0 : Int)).length ≤ LINE ∧ v_law_poly_is_13 p' den' size' mine' (coefs_here' ++ ((rngT 0 (size' - (coefs_here'.length : Int))).map fun (x15 : Int) => (0 : Int))))
noncomputable def q_law_poly_is_11 (p' : Po) (coefs_here' : List Int) (den' : Int) (size' : Int) : Bool :=
  q_law_poly_is_12 p' coefs_here' den' size' (p'.coefs ++ ((rngT 0 (size' - (p'.coefs.length : Int))).map fun (x13 : Int) => (0 : Int)))
def v_law_poly_is_11 (p' : Po) (coefs_here' : List Int) (den' : Int) (size' : Int) : Prop :=
  (rOk (size' - (p'.coefs.length : Int)) = true ∧ (rngT 0 (size' - (p'.coefs.length : Int))).length ≤ LINE ∧ p'.coefs.length + ((rngT 0 (size' - (p'.coefs.length : Int))).map fun (x13 : Int) => (0 : Int)).length ≤ LINE ∧ v_law_poly_is_12 p' coefs_here' den' size' (p'.coefs ++ ((rngT 0 (size' - (p'.coefs.length : Int))).map fun (x13 : Int) => (0 : Int))))
noncomputable def q_law_poly_is_10 (p' : Po) (coefs_here' : List Int) (den' : Int) : Bool :=
  q_law_poly_is_11 p' coefs_here' den' (max (p'.coefs.length : Int) (coefs_here'.length : Int))
def v_law_poly_is_10 (p' : Po) (coefs_here' : List Int) (den' : Int) : Prop :=
  v_law_poly_is_11 p' coefs_here' den' (max (p'.coefs.length : Int) (coefs_here'.length : Int))
noncomputable def q_law_poly_is_8 (p' : Po) (coefs_here' : List Int) (den' : Int) (shared' : Int) : Bool :=
  if ((!decide (shared' = (1 : Int))) || ((decide ((p'.coefs.length : Int) > (0 : Int))) && (decide ((gt p'.coefs (-(1 : Int))) = (0 : Int))))) then q_law_poly_is_9 else q_law_poly_is_10 p' coefs_here' den'
def v_law_poly_is_8 (p' : Po) (coefs_here' : List Int) (den' : Int) (shared' : Int) : Prop :=
  (((!decide (shared' = (1 : Int))) = false → ((decide ((p'.coefs.length : Int) > (0 : Int))) = true → inR p'.coefs (-(1 : Int)))) ∧ (((!decide (shared' = (1 : Int))) || ((decide ((p'.coefs.length : Int) > (0 : Int))) && (decide ((gt p'.coefs (-(1 : Int))) = (0 : Int))))) = false → v_law_poly_is_10 p' coefs_here' den'))
noncomputable def q_law_poly_is_3 (p' : Po) (coefs_here' : List Int) (den' : Int) (shared' : Int) : Bool :=
  (q_law_poly_is_7 p' coefs_here' den' shared').fin fun s9 => q_law_poly_is_8 p' coefs_here' den' s9
def v_law_poly_is_3 (p' : Po) (coefs_here' : List Int) (den' : Int) (shared' : Int) : Prop :=
  (forVX (fun (s6 : Int) (x7 : Int) => v_law_poly_is_4 p' coefs_here' den' s6 x7) (fun (s6 : Int) (x7 : Int) => q_law_poly_is_4 p' coefs_here' den' s6 x7) p'.coefs shared' ∧ (∀ s9, q_law_poly_is_7 p' coefs_here' den' shared' = .nx s9 → v_law_poly_is_8 p' coefs_here' den' s9))
noncomputable def q_law_poly_is_2 (p' : Po) (coefs_here' : List Int) (den' : Int) : Bool :=
  q_law_poly_is_3 p' coefs_here' den' p'.den
def v_law_poly_is_2 (p' : Po) (coefs_here' : List Int) (den' : Int) : Prop :=
  v_law_poly_is_3 p' coefs_here' den' p'.den
noncomputable def q_law_poly_is_0 (p' : Po) (coefs_here' : List Int) (den' : Int) : Bool :=
  if ((!true) || ((!true) || ((!(q_law_is_integer p'.den)) || (decide (p'.den < (1 : Int)))))) then q_law_poly_is_1 else q_law_poly_is_2 p' coefs_here' den'
def v_law_poly_is_0 (p' : Po) (coefs_here' : List Int) (den' : Int) : Prop :=
  (((!true) || ((!true) || ((!(q_law_is_integer p'.den)) || (decide (p'.den < (1 : Int)))))) = false → v_law_poly_is_2 p' coefs_here' den')
noncomputable def q_law_poly_is (p' : Po) (coefs_here' : List Int) (den' : Int) : Bool :=
  q_law_poly_is_0 p' coefs_here' den'
def v_law_poly_is (p' : Po) (coefs_here' : List Int) (den' : Int) : Prop :=
  v_law_poly_is_0 p' coefs_here' den'
noncomputable def q_Poly_neg_0 (self' : Po) : Po :=
  q_Poly_init (self'.coefs.map fun (x1 : Int) => (-x1)) self'.den
def v_Poly_neg_0 (self' : Po) : Prop :=
  (self'.coefs.length ≤ LINE ∧ v_Poly_init (self'.coefs.map fun (x1 : Int) => (-x1)) self'.den)
noncomputable def q_Poly_neg (self' : Po) : Po :=
  q_Poly_neg_0 self'
def v_Poly_neg (self' : Po) : Prop :=
  v_Poly_neg_0 self'
noncomputable def q_Poly_sub_0 (self' : Po) (other' : Po) : Po :=
  q_Poly_add self' (q_Poly_neg other')
def v_Poly_sub_0 (self' : Po) (other' : Po) : Prop :=
  (v_Poly_neg other' ∧ v_Poly_add self' (q_Poly_neg other'))
noncomputable def q_Poly_sub (self' : Po) (other' : Po) : Po :=
  q_Poly_sub_0 self' other'
def v_Poly_sub (self' : Po) (other' : Po) : Prop :=
  v_Poly_sub_0 self' other'
noncomputable def q_Poly_mul_3 (self' : Po) (other' : Po) (numbers' : List Int) (i' : Int) (a' : Int) (j' : Int) (b' : Int) : (List Int) :=
  setT numbers' (i' + j') ((gt numbers' (i' + j')) + (a' * b'))
def v_Poly_mul_3 (self' : Po) (other' : Po) (numbers' : List Int) (i' : Int) (a' : Int) (j' : Int) (b' : Int) : Prop :=
  (inR numbers' (i' + j') ∧ mulOk a' b' = true ∧ inR numbers' (i' + j'))
noncomputable def q_Poly_mul_2 (self' : Po) (other' : Po) (numbers' : List Int) (i' : Int) (a' : Int) : (List Int) :=
  (fun s6 => s6) ((enT other'.coefs).foldl (fun (s3 : (List Int)) (x4 : Int × Int) => q_Poly_mul_3 self' other' s3 i' a' x4.1 x4.2) numbers')
def v_Poly_mul_2 (self' : Po) (other' : Po) (numbers' : List Int) (i' : Int) (a' : Int) : Prop :=
  forV (fun (s3 : (List Int)) (x4 : Int × Int) => v_Poly_mul_3 self' other' s3 i' a' x4.1 x4.2) (fun (s3 : (List Int)) (x4 : Int × Int) => q_Poly_mul_3 self' other' s3 i' a' x4.1 x4.2) (enT other'.coefs) numbers'
noncomputable def q_Poly_mul_4 (self' : Po) (other' : Po) (numbers' : List Int) : (List Int) :=
  (enT self'.coefs).foldl (fun (s7 : (List Int)) (x8 : Int × Int) => q_Poly_mul_2 self' other' s7 x8.1 x8.2) numbers'
noncomputable def q_Poly_mul_5 (self' : Po) (other' : Po) (numbers' : List Int) : Po :=
  q_Poly_init numbers' (self'.den * other'.den)
def v_Poly_mul_5 (self' : Po) (other' : Po) (numbers' : List Int) : Prop :=
  (mulOk self'.den other'.den = true ∧ v_Poly_init numbers' (self'.den * other'.den))
noncomputable def q_Poly_mul_1 (self' : Po) (other' : Po) (numbers' : List Int) : Po :=
  q_Poly_mul_5 self' other' (q_Poly_mul_4 self' other' numbers')
def v_Poly_mul_1 (self' : Po) (other' : Po) (numbers' : List Int) : Prop :=
  (forV (fun (s7 : (List Int)) (x8 : Int × Int) => v_Poly_mul_2 self' other' s7 x8.1 x8.2) (fun (s7 : (List Int)) (x8 : Int × Int) => q_Poly_mul_2 self' other' s7 x8.1 x8.2) (enT self'.coefs) numbers' ∧ v_Poly_mul_5 self' other' (q_Poly_mul_4 self' other' numbers'))
noncomputable def q_Poly_mul_0 (self' : Po) (other' : Po) : Po :=
  q_Poly_mul_1 self' other' ((rngT 0 ((self'.coefs.length : Int) + (other'.coefs.length : Int))).map fun (x1 : Int) => (0 : Int))
def v_Poly_mul_0 (self' : Po) (other' : Po) : Prop :=
  (rOk ((self'.coefs.length : Int) + (other'.coefs.length : Int)) = true ∧ (rngT 0 ((self'.coefs.length : Int) + (other'.coefs.length : Int))).length ≤ LINE ∧ v_Poly_mul_1 self' other' ((rngT 0 ((self'.coefs.length : Int) + (other'.coefs.length : Int))).map fun (x1 : Int) => (0 : Int)))
noncomputable def q_Poly_mul (self' : Po) (other' : Po) : Po :=
  q_Poly_mul_0 self' other'
def v_Poly_mul (self' : Po) (other' : Po) : Prop :=
  v_Poly_mul_0 self' other'
noncomputable def q_law_product_3 (a' : List Int) (b' : List Int) (result' : List Int) (i' : Int) (j' : Int) : (List Int) :=
  setT result' (i' + j') ((gt result' (i' + j')) + ((gt a' i') * (gt b' j')))
def v_law_product_3 (a' : List Int) (b' : List Int) (result' : List Int) (i' : Int) (j' : Int) : Prop :=
  (inR result' (i' + j') ∧ inR a' i' ∧ inR b' j' ∧ mulOk (gt a' i') (gt b' j') = true ∧ inR result' (i' + j'))
noncomputable def q_law_product_2 (a' : List Int) (b' : List Int) (result' : List Int) (i' : Int) : (List Int) :=
  (fun s6 => s6) ((rngT 0 (b'.length : Int)).foldl (fun (s3 : (List Int)) (x4 : Int) => q_law_product_3 a' b' s3 i' x4) result')
def v_law_product_2 (a' : List Int) (b' : List Int) (result' : List Int) (i' : Int) : Prop :=
  (rOk (b'.length : Int) = true ∧ forV (fun (s3 : (List Int)) (x4 : Int) => v_law_product_3 a' b' s3 i' x4) (fun (s3 : (List Int)) (x4 : Int) => q_law_product_3 a' b' s3 i' x4) (rngT 0 (b'.length : Int)) result')
noncomputable def q_law_product_4 (a' : List Int) (b' : List Int) (result' : List Int) : (List Int) :=
  (rngT 0 (a'.length : Int)).foldl (fun (s7 : (List Int)) (x8 : Int) => q_law_product_2 a' b' s7 x8) result'
noncomputable def q_law_product_5 (result' : List Int) : List Int :=
  result'
noncomputable def q_law_product_1 (a' : List Int) (b' : List Int) (result' : List Int) : List Int :=
  q_law_product_5 (q_law_product_4 a' b' result')
def v_law_product_1 (a' : List Int) (b' : List Int) (result' : List Int) : Prop :=
  (rOk (a'.length : Int) = true ∧ forV (fun (s7 : (List Int)) (x8 : Int) => v_law_product_2 a' b' s7 x8) (fun (s7 : (List Int)) (x8 : Int) => q_law_product_2 a' b' s7 x8) (rngT 0 (a'.length : Int)) result')
noncomputable def q_law_product_0 (a' : List Int) (b' : List Int) : List Int :=
  q_law_product_1 a' b' ((rngT 0 ((a'.length : Int) + (b'.length : Int))).map fun (x1 : Int) => (0 : Int))
def v_law_product_0 (a' : List Int) (b' : List Int) : Prop :=
  (rOk ((a'.length : Int) + (b'.length : Int)) = true ∧ (rngT 0 ((a'.length : Int) + (b'.length : Int))).length ≤ LINE ∧ v_law_product_1 a' b' ((rngT 0 ((a'.length : Int) + (b'.length : Int))).map fun (x1 : Int) => (0 : Int)))
noncomputable def q_law_product (a' : List Int) (b' : List Int) : List Int :=
  q_law_product_0 a' b'
def v_law_product (a' : List Int) (b' : List Int) : Prop :=
  v_law_product_0 a' b'
noncomputable def q_law_sum_at_8 (num' : Int) (den' : Int) (top' : Int) (below' : Int) (power_num' : Int) (power_den' : Int) : Int × Int × Int × Int :=
  (top', below', power_num', (power_den' * den'))
def v_law_sum_at_8 (num' : Int) (den' : Int) (top' : Int) (below' : Int) (power_num' : Int) (power_den' : Int) : Prop :=
  mulOk power_den' den' = true
noncomputable def q_law_sum_at_7 (num' : Int) (den' : Int) (top' : Int) (below' : Int) (power_num' : Int) (power_den' : Int) : Int × Int × Int × Int :=
  q_law_sum_at_8 num' den' top' below' (power_num' * num') power_den'
def v_law_sum_at_7 (num' : Int) (den' : Int) (top' : Int) (below' : Int) (power_num' : Int) (power_den' : Int) : Prop :=
  (mulOk power_num' num' = true ∧ v_law_sum_at_8 num' den' top' below' (power_num' * num') power_den')
noncomputable def q_law_sum_at_6 (num' : Int) (den' : Int) (top' : Int) (below' : Int) (power_num' : Int) (power_den' : Int) : Int × Int × Int × Int :=
  q_law_sum_at_7 num' den' top' (below' * power_den') power_num' power_den'
def v_law_sum_at_6 (num' : Int) (den' : Int) (top' : Int) (below' : Int) (power_num' : Int) (power_den' : Int) : Prop :=
  (mulOk below' power_den' = true ∧ v_law_sum_at_7 num' den' top' (below' * power_den') power_num' power_den')
noncomputable def q_law_sum_at_5 (num' : Int) (den' : Int) (top' : Int) (below' : Int) (power_num' : Int) (power_den' : Int) (number' : Int) : Int × Int × Int × Int :=
  q_law_sum_at_6 num' den' ((top' * power_den') + ((number' * power_num') * below')) below' power_num' power_den'
def v_law_sum_at_5 (num' : Int) (den' : Int) (top' : Int) (below' : Int) (power_num' : Int) (power_den' : Int) (number' : Int) : Prop :=
  (mulOk top' power_den' = true ∧ mulOk number' power_num' = true ∧ mulOk (number' * power_num') below' = true ∧ v_law_sum_at_6 num' den' ((top' * power_den') + ((number' * power_num') * below')) below' power_num' power_den')
noncomputable def q_law_sum_at_9 (coefs' : List Int) (num' : Int) (den' : Int) (top' : Int) (below' : Int) (power_num' : Int) (power_den' : Int) : Int × Int × Int × Int :=
  coefs'.foldl (fun (s1 : Int × Int × Int × Int) (x2 : Int) => q_law_sum_at_5 num' den' s1.1 s1.2.1 s1.2.2.1 s1.2.2.2 x2) (top', below', power_num', power_den')
noncomputable def q_law_sum_at_10 (top' : Int) (below' : Int) : List Int :=
  [top', below']
noncomputable def q_law_sum_at_4 (coefs' : List Int) (num' : Int) (den' : Int) (top' : Int) (below' : Int) (power_num' : Int) (power_den' : Int) : List Int :=
  q_law_sum_at_10 ((q_law_sum_at_9 coefs' num' den' top' below' power_num' power_den').1) ((q_law_sum_at_9 coefs' num' den' top' below' power_num' power_den').2.1)
def v_law_sum_at_4 (coefs' : List Int) (num' : Int) (den' : Int) (top' : Int) (below' : Int) (power_num' : Int) (power_den' : Int) : Prop :=
  forV (fun (s1 : Int × Int × Int × Int) (x2 : Int) => v_law_sum_at_5 num' den' s1.1 s1.2.1 s1.2.2.1 s1.2.2.2 x2) (fun (s1 : Int × Int × Int × Int) (x2 : Int) => q_law_sum_at_5 num' den' s1.1 s1.2.1 s1.2.2.1 s1.2.2.2 x2) coefs' (top', below', power_num', power_den')
noncomputable def q_law_sum_at_3 (coefs' : List Int) (num' : Int) (den' : Int) (top' : Int) (below' : Int) (power_num' : Int) : List Int :=
  q_law_sum_at_4 coefs' num' den' top' below' power_num' (1 : Int)
def v_law_sum_at_3 (coefs' : List Int) (num' : Int) (den' : Int) (top' : Int) (below' : Int) (power_num' : Int) : Prop :=
  v_law_sum_at_4 coefs' num' den' top' below' power_num' (1 : Int)
noncomputable def q_law_sum_at_2 (coefs' : List Int) (num' : Int) (den' : Int) (top' : Int) (below' : Int) : List Int :=
  q_law_sum_at_3 coefs' num' den' top' below' (1 : Int)
def v_law_sum_at_2 (coefs' : List Int) (num' : Int) (den' : Int) (top' : Int) (below' : Int) : Prop :=
  v_law_sum_at_3 coefs' num' den' top' below' (1 : Int)
noncomputable def q_law_sum_at_1 (coefs' : List Int) (num' : Int) (den' : Int) (top' : Int) : List Int :=
  q_law_sum_at_2 coefs' num' den' top' (1 : Int)
def v_law_sum_at_1 (coefs' : List Int) (num' : Int) (den' : Int) (top' : Int) : Prop :=
  v_law_sum_at_2 coefs' num' den' top' (1 : Int)
noncomputable def q_law_sum_at_0 (coefs' : List Int) (num' : Int) (den' : Int) : List Int :=
  q_law_sum_at_1 coefs' num' den' (0 : Int)
def v_law_sum_at_0 (coefs' : List Int) (num' : Int) (den' : Int) : Prop :=
  v_law_sum_at_1 coefs' num' den' (0 : Int)
noncomputable def q_law_sum_at (coefs' : List Int) (num' : Int) (den' : Int) : List Int :=
  q_law_sum_at_0 coefs' num' den'
def v_law_sum_at (coefs' : List Int) (num' : Int) (den' : Int) : Prop :=
  v_law_sum_at_0 coefs' num' den'
noncomputable def q_Fraction_init_3 (num' : Int) (den' : Int) (divisor' : Int) : Int :=
  (-divisor')
noncomputable def q_Fraction_init_4 (num' : Int) (den' : Int) (divisor' : Int) : Int :=
  if (decide (den' < (0 : Int))) then q_Fraction_init_3 num' den' divisor' else divisor'
noncomputable def q_Fraction_init_6 (den' : Int) (divisor' : Int) (sf_num : Int) : Int × Int :=
  (sf_num, (Int.fdiv den' divisor'))
def v_Fraction_init_6 (den' : Int) (divisor' : Int) (sf_num : Int) : Prop :=
  divisor' ≠ 0
noncomputable def q_Fraction_init_5 (num' : Int) (den' : Int) (divisor' : Int) : Int × Int :=
  q_Fraction_init_6 den' divisor' (Int.fdiv num' divisor')
def v_Fraction_init_5 (num' : Int) (den' : Int) (divisor' : Int) : Prop :=
  (divisor' ≠ 0 ∧ v_Fraction_init_6 den' divisor' (Int.fdiv num' divisor'))
noncomputable def q_Fraction_init_2 (num' : Int) (den' : Int) (divisor' : Int) : Int × Int :=
  q_Fraction_init_5 num' den' (q_Fraction_init_4 num' den' divisor')
def v_Fraction_init_2 (num' : Int) (den' : Int) (divisor' : Int) : Prop :=
  v_Fraction_init_5 num' den' (q_Fraction_init_4 num' den' divisor')
noncomputable def q_Fraction_init_1 (num' : Int) (den' : Int) : Int × Int :=
  q_Fraction_init_2 num' den' (Int.gcd num' den' : Int)
def v_Fraction_init_1 (num' : Int) (den' : Int) : Prop :=
  v_Fraction_init_2 num' den' (Int.gcd num' den' : Int)
noncomputable def q_Fraction_init_0 (num' : Int) (den' : Int) : Int × Int :=
  q_Fraction_init_1 num' den'
def v_Fraction_init_0 (num' : Int) (den' : Int) : Prop :=
  ((decide (den' = (0 : Int))) = false ∧ v_Fraction_init_1 num' den')
noncomputable def q_Fraction_init (num' : Int) (den' : Int) : Fr :=
  ⟨(q_Fraction_init_0 num' den').1, (q_Fraction_init_0 num' den').2⟩
def v_Fraction_init (num' : Int) (den' : Int) : Prop :=
  v_Fraction_init_0 num' den'
noncomputable def q_Poly_at_2 (self' : Po) (k' : Int) (total' : Int) (number' : Int) : Int :=
  ((total' * k') + number')
def v_Poly_at_2 (self' : Po) (k' : Int) (total' : Int) (number' : Int) : Prop :=
  mulOk total' k' = true
noncomputable def q_Poly_at_3 (self' : Po) (k' : Int) (total' : Int) : Int :=
  self'.coefs.reverse.foldl (fun (s1 : Int) (x2 : Int) => q_Poly_at_2 self' k' s1 x2) total'
noncomputable def q_Poly_at_4 (self' : Po) (total' : Int) : Fr :=
  q_Fraction_init total' self'.den
def v_Poly_at_4 (self' : Po) (total' : Int) : Prop :=
  v_Fraction_init total' self'.den
noncomputable def q_Poly_at_1 (self' : Po) (k' : Int) (total' : Int) : Fr :=
  q_Poly_at_4 self' (q_Poly_at_3 self' k' total')
def v_Poly_at_1 (self' : Po) (k' : Int) (total' : Int) : Prop :=
  (forV (fun (s1 : Int) (x2 : Int) => v_Poly_at_2 self' k' s1 x2) (fun (s1 : Int) (x2 : Int) => q_Poly_at_2 self' k' s1 x2) self'.coefs.reverse total' ∧ v_Poly_at_4 self' (q_Poly_at_3 self' k' total'))
noncomputable def q_Poly_at_0 (self' : Po) (k' : Int) : Fr :=
  q_Poly_at_1 self' k' (0 : Int)
def v_Poly_at_0 (self' : Po) (k' : Int) : Prop :=
  v_Poly_at_1 self' k' (0 : Int)
noncomputable def q_Poly_at (self' : Po) (k' : Int) : Fr :=
  q_Poly_at_0 self' k'
def v_Poly_at (self' : Po) (k' : Int) : Prop :=
  v_Poly_at_0 self' k'
noncomputable def q_law_is_1  : Bool :=
  false
noncomputable def q_law_is_3  : Bool :=
  false
noncomputable def q_law_is_4 (x' : Fr) (num' : Int) (den' : Int) : Bool :=
  (decide ((x'.num * den') = (num' * x'.den)))
def v_law_is_4 (x' : Fr) (num' : Int) (den' : Int) : Prop :=
  (mulOk x'.num den' = true ∧ mulOk num' x'.den = true)
noncomputable def q_law_is_2 (x' : Fr) (num' : Int) (den' : Int) : Bool :=
  if ((decide (x'.den < (1 : Int))) || (!decide ((q_law_divisor x'.num x'.den) = (1 : Int)))) then q_law_is_3 else q_law_is_4 x' num' den'
def v_law_is_2 (x' : Fr) (num' : Int) (den' : Int) : Prop :=
  (((decide (x'.den < (1 : Int))) = false → v_law_divisor x'.num x'.den) ∧ (((decide (x'.den < (1 : Int))) || (!decide ((q_law_divisor x'.num x'.den) = (1 : Int)))) = false → v_law_is_4 x' num' den'))
noncomputable def q_law_is_0 (x' : Fr) (num' : Int) (den' : Int) : Bool :=
  if ((!true) || ((!(q_law_is_integer x'.num)) || (!(q_law_is_integer x'.den)))) then q_law_is_1 else q_law_is_2 x' num' den'
def v_law_is_0 (x' : Fr) (num' : Int) (den' : Int) : Prop :=
  (((!true) || ((!(q_law_is_integer x'.num)) || (!(q_law_is_integer x'.den)))) = false → v_law_is_2 x' num' den')
noncomputable def q_law_is (x' : Fr) (num' : Int) (den' : Int) : Bool :=
  q_law_is_0 x' num' den'
def v_law_is (x' : Fr) (num' : Int) (den' : Int) : Prop :=
  v_law_is_0 x' num' den'
noncomputable def q_Poly_value_4 (self' : Po) (x' : Fr) (total' : Int) (scale' : Int) : Int × Int :=
  (total', (scale' * x'.den))
def v_Poly_value_4 (self' : Po) (x' : Fr) (total' : Int) (scale' : Int) : Prop :=
  mulOk scale' x'.den = true
noncomputable def q_Poly_value_3 (self' : Po) (x' : Fr) (total' : Int) (scale' : Int) (number' : Int) : Int × Int :=
  q_Poly_value_4 self' x' ((total' * x'.num) + (number' * scale')) scale'
def v_Poly_value_3 (self' : Po) (x' : Fr) (total' : Int) (scale' : Int) (number' : Int) : Prop :=
  (mulOk total' x'.num = true ∧ mulOk number' scale' = true ∧ v_Poly_value_4 self' x' ((total' * x'.num) + (number' * scale')) scale')
noncomputable def q_Poly_value_5 (self' : Po) (x' : Fr) (total' : Int) (scale' : Int) : Int × Int :=
  self'.coefs.reverse.foldl (fun (s1 : Int × Int) (x2 : Int) => q_Poly_value_3 self' x' s1.1 s1.2 x2) (total', scale')
noncomputable def q_Poly_value_6 (self' : Po) (x' : Fr) (total' : Int) (scale' : Int) : Fr :=
  q_Fraction_init (total' * x'.den) (self'.den * scale')
def v_Poly_value_6 (self' : Po) (x' : Fr) (total' : Int) (scale' : Int) : Prop :=
  (mulOk total' x'.den = true ∧ mulOk self'.den scale' = true ∧ v_Fraction_init (total' * x'.den) (self'.den * scale'))
noncomputable def q_Poly_value_2 (self' : Po) (x' : Fr) (total' : Int) (scale' : Int) : Fr :=
  q_Poly_value_6 self' x' ((q_Poly_value_5 self' x' total' scale').1) ((q_Poly_value_5 self' x' total' scale').2)
def v_Poly_value_2 (self' : Po) (x' : Fr) (total' : Int) (scale' : Int) : Prop :=
  (forV (fun (s1 : Int × Int) (x2 : Int) => v_Poly_value_3 self' x' s1.1 s1.2 x2) (fun (s1 : Int × Int) (x2 : Int) => q_Poly_value_3 self' x' s1.1 s1.2 x2) self'.coefs.reverse (total', scale') ∧ v_Poly_value_6 self' x' ((q_Poly_value_5 self' x' total' scale').1) ((q_Poly_value_5 self' x' total' scale').2))
noncomputable def q_Poly_value_1 (self' : Po) (x' : Fr) (total' : Int) : Fr :=
  q_Poly_value_2 self' x' total' (1 : Int)
def v_Poly_value_1 (self' : Po) (x' : Fr) (total' : Int) : Prop :=
  v_Poly_value_2 self' x' total' (1 : Int)
noncomputable def q_Poly_value_0 (self' : Po) (x' : Fr) : Fr :=
  q_Poly_value_1 self' x' (0 : Int)
def v_Poly_value_0 (self' : Po) (x' : Fr) : Prop :=
  v_Poly_value_1 self' x' (0 : Int)
noncomputable def q_Poly_value (self' : Po) (x' : Fr) : Fr :=
  q_Poly_value_0 self' x'
def v_Poly_value (self' : Po) (x' : Fr) : Prop :=
  v_Poly_value_0 self' x'
noncomputable def q_Poly_scaled_0 (self' : Po) (factor' : Fr) : Po :=
  q_Poly_init (self'.coefs.map fun (x1 : Int) => (x1 * factor'.num)) (self'.den * factor'.den)
def v_Poly_scaled_0 (self' : Po) (factor' : Fr) : Prop :=
  ((∀ x1, x1 ∈ self'.coefs → mulOk x1 factor'.num = true) ∧ self'.coefs.length ≤ LINE ∧ mulOk self'.den factor'.den = true ∧ v_Poly_init (self'.coefs.map fun (x1 : Int) => (x1 * factor'.num)) (self'.den * factor'.den))
noncomputable def q_Poly_scaled (self' : Po) (factor' : Fr) : Po :=
  q_Poly_scaled_0 self' factor'
def v_Poly_scaled (self' : Po) (factor' : Fr) : Prop :=
  v_Poly_scaled_0 self' factor'
noncomputable def q_Poly_power_2 (self' : Po) (result' : Po) : Po :=
  q_Poly_mul result' self'
def v_Poly_power_2 (self' : Po) (result' : Po) : Prop :=
  v_Poly_mul result' self'
noncomputable def q_Poly_power_3 (self' : Po) (exponent' : Int) (result' : Po) : Po :=
  (rngT 0 exponent').foldl (fun (s1 : Po) (x2 : Int) => q_Poly_power_2 self' s1) result'
noncomputable def q_Poly_power_4 (result' : Po) : Po :=
  result'
noncomputable def q_Poly_power_1 (self' : Po) (exponent' : Int) (result' : Po) : Po :=
  q_Poly_power_4 (q_Poly_power_3 self' exponent' result')
def v_Poly_power_1 (self' : Po) (exponent' : Int) (result' : Po) : Prop :=
  (rOk exponent' = true ∧ forV (fun (s1 : Po) (x2 : Int) => v_Poly_power_2 self' s1) (fun (s1 : Po) (x2 : Int) => q_Poly_power_2 self' s1) (rngT 0 exponent') result')
noncomputable def q_Poly_power_0 (self' : Po) (exponent' : Int) : Po :=
  q_Poly_power_1 self' exponent' (q_Poly_init ([(1 : Int)]) (1 : Int))
def v_Poly_power_0 (self' : Po) (exponent' : Int) : Prop :=
  (v_Poly_init ([(1 : Int)]) (1 : Int) ∧ v_Poly_power_1 self' exponent' (q_Poly_init ([(1 : Int)]) (1 : Int)))
noncomputable def q_Poly_power (self' : Po) (exponent' : Int) : Po :=
  q_Poly_power_0 self' exponent'
def v_Poly_power (self' : Po) (exponent' : Int) : Prop :=
  v_Poly_power_0 self' exponent'
noncomputable def q_Poly_shifted_3 (self' : Po) (step' : Int) (numbers' : List Int) (j' : Int) : (List Int) :=
  setT numbers' j' ((gt numbers' j') + (step' * (gt numbers' (j' + (1 : Int)))))
def v_Poly_shifted_3 (self' : Po) (step' : Int) (numbers' : List Int) (j' : Int) : Prop :=
  (inR numbers' j' ∧ inR numbers' (j' + (1 : Int)) ∧ mulOk step' (gt numbers' (j' + (1 : Int))) = true ∧ inR numbers' j')
noncomputable def q_Poly_shifted_2 (self' : Po) (step' : Int) (numbers' : List Int) (i' : Int) : (List Int) :=
  (rngDT ((numbers'.length : Int) - (2 : Int)) (i' - (1 : Int))).foldl (fun (s1 : (List Int)) (x2 : Int) => q_Poly_shifted_3 self' step' s1 x2) numbers'
def v_Poly_shifted_2 (self' : Po) (step' : Int) (numbers' : List Int) (i' : Int) : Prop :=
  (rOk ((numbers'.length : Int) - (2 : Int)) = true ∧ rOk (i' - (1 : Int)) = true ∧ forV (fun (s1 : (List Int)) (x2 : Int) => v_Poly_shifted_3 self' step' s1 x2) (fun (s1 : (List Int)) (x2 : Int) => q_Poly_shifted_3 self' step' s1 x2) (rngDT ((numbers'.length : Int) - (2 : Int)) (i' - (1 : Int))) numbers')
noncomputable def q_Poly_shifted_4 (self' : Po) (step' : Int) (numbers' : List Int) : (List Int) :=
  (rngT 0 ((numbers'.length : Int) - (1 : Int))).foldl (fun (s4 : (List Int)) (x5 : Int) => q_Poly_shifted_2 self' step' s4 x5) numbers'
noncomputable def q_Poly_shifted_5 (self' : Po) (numbers' : List Int) : Po :=
  q_Poly_init numbers' self'.den
def v_Poly_shifted_5 (self' : Po) (numbers' : List Int) : Prop :=
  v_Poly_init numbers' self'.den
noncomputable def q_Poly_shifted_1 (self' : Po) (step' : Int) (numbers' : List Int) : Po :=
  q_Poly_shifted_5 self' (q_Poly_shifted_4 self' step' numbers')
def v_Poly_shifted_1 (self' : Po) (step' : Int) (numbers' : List Int) : Prop :=
  (rOk ((numbers'.length : Int) - (1 : Int)) = true ∧ forV (fun (s4 : (List Int)) (x5 : Int) => v_Poly_shifted_2 self' step' s4 x5) (fun (s4 : (List Int)) (x5 : Int) => q_Poly_shifted_2 self' step' s4 x5) (rngT 0 ((numbers'.length : Int) - (1 : Int))) numbers' ∧ v_Poly_shifted_5 self' (q_Poly_shifted_4 self' step' numbers'))
noncomputable def q_Poly_shifted_0 (self' : Po) (step' : Int) : Po :=
  q_Poly_shifted_1 self' step' self'.coefs
def v_Poly_shifted_0 (self' : Po) (step' : Int) : Prop :=
  v_Poly_shifted_1 self' step' self'.coefs
noncomputable def q_Poly_shifted (self' : Po) (step' : Int) : Po :=
  q_Poly_shifted_0 self' step'
def v_Poly_shifted (self' : Po) (step' : Int) : Prop :=
  v_Poly_shifted_0 self' step'
noncomputable def q_law_shifted_4 (step' : Int) (result' : List Int) (k' : Int) (power' : List Int) (number' : Int) : (List Int) :=
  setT result' k' ((gt result' k') + (number' * (gt power' k')))
def v_law_shifted_4 (step' : Int) (result' : List Int) (k' : Int) (power' : List Int) (number' : Int) : Prop :=
  (inR result' k' ∧ inR power' k' ∧ mulOk number' (gt power' k') = true ∧ inR result' k')
noncomputable def q_law_shifted_5 (step' : Int) (result' : List Int) (power' : List Int) (number' : Int) : (List Int) :=
  (rngT 0 (min (power'.length : Int) (result'.length : Int))).foldl (fun (s3 : (List Int)) (x4 : Int) => q_law_shifted_4 step' s3 x4 power' number') result'
noncomputable def q_law_shifted_6 (step' : Int) (result' : List Int) (power' : List Int) : (List Int) × (List Int) :=
  (result', q_law_product power' ([step', (1 : Int)]))
def v_law_shifted_6 (step' : Int) (result' : List Int) (power' : List Int) : Prop :=
  v_law_product power' ([step', (1 : Int)])
noncomputable def q_law_shifted_3 (step' : Int) (result' : List Int) (power' : List Int) (number' : Int) : (List Int) × (List Int) :=
  q_law_shifted_6 step' (q_law_shifted_5 step' result' power' number') power'
def v_law_shifted_3 (step' : Int) (result' : List Int) (power' : List Int) (number' : Int) : Prop :=
  (rOk (min (power'.length : Int) (result'.length : Int)) = true ∧ forV (fun (s3 : (List Int)) (x4 : Int) => v_law_shifted_4 step' s3 x4 power' number') (fun (s3 : (List Int)) (x4 : Int) => q_law_shifted_4 step' s3 x4 power' number') (rngT 0 (min (power'.length : Int) (result'.length : Int))) result' ∧ v_law_shifted_6 step' (q_law_shifted_5 step' result' power' number') power')
noncomputable def q_law_shifted_7 (coefs_here' : List Int) (step' : Int) (result' : List Int) (power' : List Int) : (List Int) × (List Int) :=
  coefs_here'.foldl (fun (s6 : (List Int) × (List Int)) (x7 : Int) => q_law_shifted_3 step' s6.1 s6.2 x7) (result', power')
noncomputable def q_law_shifted_8 (result' : List Int) : List Int :=
  result'
noncomputable def q_law_shifted_2 (coefs_here' : List Int) (step' : Int) (result' : List Int) (power' : List Int) : List Int :=
  q_law_shifted_8 ((q_law_shifted_7 coefs_here' step' result' power').1)
def v_law_shifted_2 (coefs_here' : List Int) (step' : Int) (result' : List Int) (power' : List Int) : Prop :=
  forV (fun (s6 : (List Int) × (List Int)) (x7 : Int) => v_law_shifted_3 step' s6.1 s6.2 x7) (fun (s6 : (List Int) × (List Int)) (x7 : Int) => q_law_shifted_3 step' s6.1 s6.2 x7) coefs_here' (result', power')
noncomputable def q_law_shifted_1 (coefs_here' : List Int) (step' : Int) (result' : List Int) : List Int :=
  q_law_shifted_2 coefs_here' step' result' ([(1 : Int)])
def v_law_shifted_1 (coefs_here' : List Int) (step' : Int) (result' : List Int) : Prop :=
  v_law_shifted_2 coefs_here' step' result' ([(1 : Int)])
noncomputable def q_law_shifted_0 (coefs_here' : List Int) (step' : Int) : List Int :=
  q_law_shifted_1 coefs_here' step' ((rngT 0 (coefs_here'.length : Int)).map fun (x1 : Int) => (0 : Int))
def v_law_shifted_0 (coefs_here' : List Int) (step' : Int) : Prop :=
  (rOk (coefs_here'.length : Int) = true ∧ (rngT 0 (coefs_here'.length : Int)).length ≤ LINE ∧ v_law_shifted_1 coefs_here' step' ((rngT 0 (coefs_here'.length : Int)).map fun (x1 : Int) => (0 : Int)))
noncomputable def q_law_shifted (coefs_here' : List Int) (step' : Int) : List Int :=
  q_law_shifted_0 coefs_here' step'
def v_law_shifted (coefs_here' : List Int) (step' : Int) : Prop :=
  v_law_shifted_0 coefs_here' step'
noncomputable def q_law_trimmed_2 (coefs_here' : List Int) (size' : Int) : Int :=
  (size' - (1 : Int))
noncomputable def q_law_trimmed_3 (coefs_here' : List Int) (size' : Int) : Int :=
  wh (fun (s1 : Int) => ((decide (s1 > (0 : Int))) && (decide ((gt coefs_here' (s1 - (1 : Int))) = (0 : Int))))) (fun (s1 : Int) => q_law_trimmed_2 coefs_here' s1) size'
noncomputable def q_law_trimmed_4 (coefs_here' : List Int) (size' : Int) : List Int :=
  (cutT coefs_here' none (some size'))
noncomputable def q_law_trimmed_1 (coefs_here' : List Int) (size' : Int) : List Int :=
  q_law_trimmed_4 coefs_here' (q_law_trimmed_3 coefs_here' size')
def v_law_trimmed_1 (coefs_here' : List Int) (size' : Int) : Prop :=
  whV (fun (s1 : Int) => ((decide (s1 > (0 : Int))) && (decide ((gt coefs_here' (s1 - (1 : Int))) = (0 : Int))))) (fun (s1 : Int) => ((decide (s1 > (0 : Int))) = true → inR coefs_here' (s1 - (1 : Int)))) (fun (s1 : Int) => q_law_trimmed_2 coefs_here' s1) (fun (s1 : Int) => True) size'
noncomputable def q_law_trimmed_0 (coefs_here' : List Int) : List Int :=
  q_law_trimmed_1 coefs_here' (coefs_here'.length : Int)
def v_law_trimmed_0 (coefs_here' : List Int) : Prop :=
  v_law_trimmed_1 coefs_here' (coefs_here'.length : Int)
noncomputable def q_law_trimmed (coefs_here' : List Int) : List Int :=
  q_law_trimmed_0 coefs_here'
def v_law_trimmed (coefs_here' : List Int) : Prop :=
  v_law_trimmed_0 coefs_here'
noncomputable def q_Poly_is_zero_0 (self' : Po) : Bool :=
  (decide ((self'.coefs.length : Int) = (0 : Int)))
noncomputable def q_Poly_is_zero (self' : Po) : Bool :=
  q_Poly_is_zero_0 self'
noncomputable def q_divide_11 (p' : Po) (q' : Po) (size' : Int) (lead' : Int) (rest' : List Int) (quotient' : List Int) (scale' : Int) (place' : Int) (top' : Int) (i' : Int) : (List Int) :=
  setT rest' (place' + i') ((gt rest' (place' + i')) - (top' * (gt q'.coefs i')))
def v_divide_11 (p' : Po) (q' : Po) (size' : Int) (lead' : Int) (rest' : List Int) (quotient' : List Int) (scale' : Int) (place' : Int) (top' : Int) (i' : Int) : Prop :=
  (inR rest' (place' + i') ∧ inR q'.coefs i' ∧ mulOk top' (gt q'.coefs i') = true ∧ inR rest' (place' + i'))
noncomputable def q_divide_12 (p' : Po) (q' : Po) (size' : Int) (lead' : Int) (rest' : List Int) (quotient' : List Int) (scale' : Int) (place' : Int) (top' : Int) : (List Int) :=
  (rngT 0 size').foldl (fun (s8 : (List Int)) (x9 : Int) => q_divide_11 p' q' size' lead' s8 quotient' scale' place' top' x9) rest'
noncomputable def q_divide_14 (p' : Po) (q' : Po) (size' : Int) (lead' : Int) (rest' : List Int) (quotient' : List Int) (scale' : Int) : (List Int) × (List Int) × Int :=
  (rest', quotient', (scale' * lead'))
def v_divide_14 (p' : Po) (q' : Po) (size' : Int) (lead' : Int) (rest' : List Int) (quotient' : List Int) (scale' : Int) : Prop :=
  mulOk scale' lead' = true
noncomputable def q_divide_13 (p' : Po) (q' : Po) (size' : Int) (lead' : Int) (rest' : List Int) (quotient' : List Int) (scale' : Int) (place' : Int) (top' : Int) : (List Int) × (List Int) × Int :=
  q_divide_14 p' q' size' lead' rest' (setT quotient' place' ((gt quotient' place') + top')) scale'
def v_divide_13 (p' : Po) (q' : Po) (size' : Int) (lead' : Int) (rest' : List Int) (quotient' : List Int) (scale' : Int) (place' : Int) (top' : Int) : Prop :=
  (inR quotient' place' ∧ inR quotient' place' ∧ v_divide_14 p' q' size' lead' rest' (setT quotient' place' ((gt quotient' place') + top')) scale')
noncomputable def q_divide_10 (p' : Po) (q' : Po) (size' : Int) (lead' : Int) (rest' : List Int) (quotient' : List Int) (scale' : Int) (place' : Int) (top' : Int) : (List Int) × (List Int) × Int :=
  q_divide_13 p' q' size' lead' (q_divide_12 p' q' size' lead' rest' quotient' scale' place' top') quotient' scale' place' top'
def v_divide_10 (p' : Po) (q' : Po) (size' : Int) (lead' : Int) (rest' : List Int) (quotient' : List Int) (scale' : Int) (place' : Int) (top' : Int) : Prop :=
  (rOk size' = true ∧ forV (fun (s8 : (List Int)) (x9 : Int) => v_divide_11 p' q' size' lead' s8 quotient' scale' place' top' x9) (fun (s8 : (List Int)) (x9 : Int) => q_divide_11 p' q' size' lead' s8 quotient' scale' place' top' x9) (rngT 0 size') rest' ∧ v_divide_13 p' q' size' lead' (q_divide_12 p' q' size' lead' rest' quotient' scale' place' top') quotient' scale' place' top')
noncomputable def q_divide_9 (p' : Po) (q' : Po) (size' : Int) (lead' : Int) (rest' : List Int) (quotient' : List Int) (scale' : Int) (place' : Int) (top' : Int) : (List Int) × (List Int) × Int :=
  q_divide_10 p' q' size' lead' rest' (quotient'.map fun (x6 : Int) => (lead' * x6)) scale' place' top'
def v_divide_9 (p' : Po) (q' : Po) (size' : Int) (lead' : Int) (rest' : List Int) (quotient' : List Int) (scale' : Int) (place' : Int) (top' : Int) : Prop :=
  ((∀ x6, x6 ∈ quotient' → mulOk lead' x6 = true) ∧ quotient'.length ≤ LINE ∧ v_divide_10 p' q' size' lead' rest' (quotient'.map fun (x6 : Int) => (lead' * x6)) scale' place' top')
noncomputable def q_divide_8 (p' : Po) (q' : Po) (size' : Int) (lead' : Int) (rest' : List Int) (quotient' : List Int) (scale' : Int) (place' : Int) (top' : Int) : (List Int) × (List Int) × Int :=
  q_divide_9 p' q' size' lead' (rest'.map fun (x4 : Int) => (lead' * x4)) quotient' scale' place' top'
def v_divide_8 (p' : Po) (q' : Po) (size' : Int) (lead' : Int) (rest' : List Int) (quotient' : List Int) (scale' : Int) (place' : Int) (top' : Int) : Prop :=
  ((∀ x4, x4 ∈ rest' → mulOk lead' x4 = true) ∧ rest'.length ≤ LINE ∧ v_divide_9 p' q' size' lead' (rest'.map fun (x4 : Int) => (lead' * x4)) quotient' scale' place' top')
noncomputable def q_divide_7 (p' : Po) (q' : Po) (size' : Int) (lead' : Int) (rest' : List Int) (quotient' : List Int) (scale' : Int) (place' : Int) : (List Int) × (List Int) × Int :=
  q_divide_8 p' q' size' lead' rest' quotient' scale' place' (gt rest' ((place' + size') - (1 : Int)))
def v_divide_7 (p' : Po) (q' : Po) (size' : Int) (lead' : Int) (rest' : List Int) (quotient' : List Int) (scale' : Int) (place' : Int) : Prop :=
  (inR rest' ((place' + size') - (1 : Int)) ∧ v_divide_8 p' q' size' lead' rest' quotient' scale' place' (gt rest' ((place' + size') - (1 : Int))))
noncomputable def q_divide_15 (p' : Po) (q' : Po) (size' : Int) (lead' : Int) (rest' : List Int) (quotient' : List Int) (scale' : Int) : (List Int) × (List Int) × Int :=
  (rngDT ((quotient'.length : Int) - (1 : Int)) (-(1 : Int))).foldl (fun (s11 : (List Int) × (List Int) × Int) (x12 : Int) => q_divide_7 p' q' size' lead' s11.1 s11.2.1 s11.2.2 x12) (rest', quotient', scale')
noncomputable def q_divide_17 (q' : Po) (rest' : List Int) (quotient' : List Int) (den' : Int) : Po × Po :=
  (q_Poly_init (quotient'.map fun (x14 : Int) => (x14 * q'.den)) den', q_Poly_init rest' den')
def v_divide_17 (q' : Po) (rest' : List Int) (quotient' : List Int) (den' : Int) : Prop :=
  ((∀ x14, x14 ∈ quotient' → mulOk x14 q'.den = true) ∧ quotient'.length ≤ LINE ∧ v_Poly_init (quotient'.map fun (x14 : Int) => (x14 * q'.den)) den' ∧ v_Poly_init rest' den')
noncomputable def q_divide_16 (p' : Po) (q' : Po) (rest' : List Int) (quotient' : List Int) (scale' : Int) : Po × Po :=
  q_divide_17 q' rest' quotient' (scale' * p'.den)
def v_divide_16 (p' : Po) (q' : Po) (rest' : List Int) (quotient' : List Int) (scale' : Int) : Prop :=
  (mulOk scale' p'.den = true ∧ v_divide_17 q' rest' quotient' (scale' * p'.den))
noncomputable def q_divide_6 (p' : Po) (q' : Po) (size' : Int) (lead' : Int) (rest' : List Int) (quotient' : List Int) (scale' : Int) : Po × Po :=
  q_divide_16 p' q' ((q_divide_15 p' q' size' lead' rest' quotient' scale').1) ((q_divide_15 p' q' size' lead' rest' quotient' scale').2.1) ((q_divide_15 p' q' size' lead' rest' quotient' scale').2.2)
def v_divide_6 (p' : Po) (q' : Po) (size' : Int) (lead' : Int) (rest' : List Int) (quotient' : List Int) (scale' : Int) : Prop :=
  (rOk ((quotient'.length : Int) - (1 : Int)) = true ∧ forV (fun (s11 : (List Int) × (List Int) × Int) (x12 : Int) => v_divide_7 p' q' size' lead' s11.1 s11.2.1 s11.2.2 x12) (fun (s11 : (List Int) × (List Int) × Int) (x12 : Int) => q_divide_7 p' q' size' lead' s11.1 s11.2.1 s11.2.2 x12) (rngDT ((quotient'.length : Int) - (1 : Int)) (-(1 : Int))) (rest', quotient', scale') ∧ v_divide_16 p' q' ((q_divide_15 p' q' size' lead' rest' quotient' scale').1) ((q_divide_15 p' q' size' lead' rest' quotient' scale').2.1) ((q_divide_15 p' q' size' lead' rest' quotient' scale').2.2))
noncomputable def q_divide_5 (p' : Po) (q' : Po) (size' : Int) (lead' : Int) (rest' : List Int) (quotient' : List Int) : Po × Po :=
  q_divide_6 p' q' size' lead' rest' quotient' (1 : Int)
def v_divide_5 (p' : Po) (q' : Po) (size' : Int) (lead' : Int) (rest' : List Int) (quotient' : List Int) : Prop :=
  v_divide_6 p' q' size' lead' rest' quotient' (1 : Int)
noncomputable def q_divide_4 (p' : Po) (q' : Po) (size' : Int) (lead' : Int) (rest' : List Int) : Po × Po :=
  q_divide_5 p' q' size' lead' rest' ((rngT 0 (((rest'.length : Int) - size') + (1 : Int))).map fun (x2 : Int) => (0 : Int))
def v_divide_4 (p' : Po) (q' : Po) (size' : Int) (lead' : Int) (rest' : List Int) : Prop :=
  (rOk (((rest'.length : Int) - size') + (1 : Int)) = true ∧ (rngT 0 (((rest'.length : Int) - size') + (1 : Int))).length ≤ LINE ∧ v_divide_5 p' q' size' lead' rest' ((rngT 0 (((rest'.length : Int) - size') + (1 : Int))).map fun (x2 : Int) => (0 : Int)))
noncomputable def q_divide_3 (p' : Po) (q' : Po) (size' : Int) (lead' : Int) : Po × Po :=
  q_divide_4 p' q' size' lead' p'.coefs
def v_divide_3 (p' : Po) (q' : Po) (size' : Int) (lead' : Int) : Prop :=
  v_divide_4 p' q' size' lead' p'.coefs
noncomputable def q_divide_2 (p' : Po) (q' : Po) (size' : Int) : Po × Po :=
  q_divide_3 p' q' size' (gt q'.coefs (size' - (1 : Int)))
def v_divide_2 (p' : Po) (q' : Po) (size' : Int) : Prop :=
  (inR q'.coefs (size' - (1 : Int)) ∧ v_divide_3 p' q' size' (gt q'.coefs (size' - (1 : Int))))
noncomputable def q_divide_1 (p' : Po) (q' : Po) : Po × Po :=
  q_divide_2 p' q' (q'.coefs.length : Int)
def v_divide_1 (p' : Po) (q' : Po) : Prop :=
  v_divide_2 p' q' (q'.coefs.length : Int)
noncomputable def q_divide_0 (p' : Po) (q' : Po) : Po × Po :=
  q_divide_1 p' q'
def v_divide_0 (p' : Po) (q' : Po) : Prop :=
  ((q_Poly_is_zero q') = false ∧ v_divide_1 p' q')
noncomputable def q_divide (p' : Po) (q' : Po) : Po × Po :=
  q_divide_0 p' q'
def v_divide (p' : Po) (q' : Po) : Prop :=
  v_divide_0 p' q'
noncomputable def q_exact_0 (p' : Po) (q' : Po) : Po :=
  (q_divide p' q').1
def v_exact_0 (p' : Po) (q' : Po) : Prop :=
  v_divide p' q'
noncomputable def q_exact (p' : Po) (q' : Po) : Po :=
  q_exact_0 p' q'
def v_exact (p' : Po) (q' : Po) : Prop :=
  v_exact_0 p' q'
noncomputable def q_content_x2_2 (divisor' : Int) (number' : Int) : Int :=
  (Int.gcd divisor' number' : Int)
noncomputable def q_content_x2_3 (numbers' : List Int) (divisor' : Int) : Int :=
  numbers'.foldl (fun (s1 : Int) (x2 : Int) => q_content_x2_2 s1 x2) divisor'
noncomputable def q_content_x2_4 (divisor' : Int) : Int :=
  divisor'
noncomputable def q_content_x2_1 (numbers' : List Int) (divisor' : Int) : Int :=
  q_content_x2_4 (q_content_x2_3 numbers' divisor')
noncomputable def q_content_x2_0 (numbers' : List Int) : Int :=
  q_content_x2_1 numbers' (0 : Int)
noncomputable def q_content_x2 (numbers' : List Int) : Int :=
  q_content_x2_0 numbers'
noncomputable def q_Poly_init_x2_4 (den' : Int) (numbers' : List Int) (divisor' : Int) : Int :=
  (-divisor')
noncomputable def q_Poly_init_x2_5 (den' : Int) (numbers' : List Int) (divisor' : Int) : Int :=
  if (decide (den' < (0 : Int))) then q_Poly_init_x2_4 den' numbers' divisor' else divisor'
noncomputable def q_Poly_init_x2_7 (den' : Int) (divisor' : Int) (sf_coefs : List Int) : (List Int) × Int :=
  (sf_coefs, (Int.fdiv den' divisor'))
def v_Poly_init_x2_7 (den' : Int) (divisor' : Int) (sf_coefs : List Int) : Prop :=
  divisor' ≠ 0
noncomputable def q_Poly_init_x2_6 (den' : Int) (numbers' : List Int) (divisor' : Int) : (List Int) × Int :=
  q_Poly_init_x2_7 den' divisor' (numbers'.map fun (x3 : Int) => (Int.fdiv x3 divisor'))
def v_Poly_init_x2_6 (den' : Int) (numbers' : List Int) (divisor' : Int) : Prop :=
  ((∀ x3, x3 ∈ numbers' → divisor' ≠ 0) ∧ numbers'.length ≤ LINE ∧ v_Poly_init_x2_7 den' divisor' (numbers'.map fun (x3 : Int) => (Int.fdiv x3 divisor')))
noncomputable def q_Poly_init_x2_3 (den' : Int) (numbers' : List Int) (divisor' : Int) : (List Int) × Int :=
  q_Poly_init_x2_6 den' numbers' (q_Poly_init_x2_5 den' numbers' divisor')
def v_Poly_init_x2_3 (den' : Int) (numbers' : List Int) (divisor' : Int) : Prop :=
  v_Poly_init_x2_6 den' numbers' (q_Poly_init_x2_5 den' numbers' divisor')
noncomputable def q_Poly_init_x2_2 (den' : Int) (numbers' : List Int) : (List Int) × Int :=
  q_Poly_init_x2_3 den' numbers' (Int.gcd (q_content numbers') den' : Int)
def v_Poly_init_x2_2 (den' : Int) (numbers' : List Int) : Prop :=
  v_Poly_init_x2_3 den' numbers' (Int.gcd (q_content numbers') den' : Int)
noncomputable def q_Poly_init_x2_1 (coefs' : List Int) (den' : Int) : (List Int) × Int :=
  q_Poly_init_x2_2 den' (q_trimmed coefs')
def v_Poly_init_x2_1 (coefs' : List Int) (den' : Int) : Prop :=
  (v_trimmed coefs' ∧ v_Poly_init_x2_2 den' (q_trimmed coefs'))
noncomputable def q_Poly_init_x2_0 (coefs' : List Int) (den' : Int) : (List Int) × Int :=
  q_Poly_init_x2_1 coefs' den'
def v_Poly_init_x2_0 (coefs' : List Int) (den' : Int) : Prop :=
  ((decide (den' = (0 : Int))) = false ∧ v_Poly_init_x2_1 coefs' den')
noncomputable def q_Poly_init_x2 (coefs' : List Int) (den' : Int) : Po :=
  ⟨(q_Poly_init_x2_0 coefs' den').1, (q_Poly_init_x2_0 coefs' den').2⟩
def v_Poly_init_x2 (coefs' : List Int) (den' : Int) : Prop :=
  v_Poly_init_x2_0 coefs' den'
noncomputable def q_primitive_1 (p' : Po) : Po :=
  p'
noncomputable def q_primitive_2 (p' : Po) : Po :=
  q_Poly_init_x2 p'.coefs (q_content_x2 p'.coefs)
def v_primitive_2 (p' : Po) : Prop :=
  v_Poly_init_x2 p'.coefs (q_content_x2 p'.coefs)
noncomputable def q_primitive_0 (p' : Po) : Po :=
  if q_Poly_is_zero p' then q_primitive_1 p' else q_primitive_2 p'
def v_primitive_0 (p' : Po) : Prop :=
  ((q_Poly_is_zero p') = false → v_primitive_2 p')
noncomputable def q_primitive (p' : Po) : Po :=
  q_primitive_0 p'
def v_primitive (p' : Po) : Prop :=
  v_primitive_0 p'
noncomputable def q_Poly_lead_1  : Fr :=
  q_Fraction_init (0 : Int) (1 : Int)
def v_Poly_lead_1  : Prop :=
  v_Fraction_init (0 : Int) (1 : Int)
noncomputable def q_Poly_lead_2 (self' : Po) : Fr :=
  q_Fraction_init (gt self'.coefs (-(1 : Int))) self'.den
def v_Poly_lead_2 (self' : Po) : Prop :=
  (inR self'.coefs (-(1 : Int)) ∧ v_Fraction_init (gt self'.coefs (-(1 : Int))) self'.den)
noncomputable def q_Poly_lead_0 (self' : Po) : Fr :=
  if (decide ((self'.coefs.length : Int) = (0 : Int))) then q_Poly_lead_1 else q_Poly_lead_2 self'
def v_Poly_lead_0 (self' : Po) : Prop :=
  (((decide ((self'.coefs.length : Int) = (0 : Int))) = true → v_Poly_lead_1) ∧ ((decide ((self'.coefs.length : Int) = (0 : Int))) = false → v_Poly_lead_2 self'))
noncomputable def q_Poly_lead (self' : Po) : Fr :=
  q_Poly_lead_0 self'
def v_Poly_lead (self' : Po) : Prop :=
  v_Poly_lead_0 self'
noncomputable def q_Fraction_over_1 (self' : Fr) (other' : Fr) : Fr :=
  q_Fraction_init (self'.num * other'.den) (self'.den * other'.num)
def v_Fraction_over_1 (self' : Fr) (other' : Fr) : Prop :=
  (mulOk self'.num other'.den = true ∧ mulOk self'.den other'.num = true ∧ v_Fraction_init (self'.num * other'.den) (self'.den * other'.num))
noncomputable def q_Fraction_over_0 (self' : Fr) (other' : Fr) : Fr :=
  q_Fraction_over_1 self' other'
def v_Fraction_over_0 (self' : Fr) (other' : Fr) : Prop :=
  ((decide (other'.num = (0 : Int))) = false ∧ v_Fraction_over_1 self' other')
noncomputable def q_Fraction_over (self' : Fr) (other' : Fr) : Fr :=
  q_Fraction_over_0 self' other'
def v_Fraction_over (self' : Fr) (other' : Fr) : Prop :=
  v_Fraction_over_0 self' other'
noncomputable def q_monic_1 (p' : Po) : Po :=
  p'
noncomputable def q_monic_2 (p' : Po) : Po :=
  q_Poly_scaled p' (q_Fraction_over (q_Fraction_init (1 : Int) (1 : Int)) (q_Poly_lead p'))
def v_monic_2 (p' : Po) : Prop :=
  (v_Fraction_init (1 : Int) (1 : Int) ∧ v_Poly_lead p' ∧ v_Fraction_over (q_Fraction_init (1 : Int) (1 : Int)) (q_Poly_lead p') ∧ v_Poly_scaled p' (q_Fraction_over (q_Fraction_init (1 : Int) (1 : Int)) (q_Poly_lead p')))
noncomputable def q_monic_0 (p' : Po) : Po :=
  if q_Poly_is_zero p' then q_monic_1 p' else q_monic_2 p'
def v_monic_0 (p' : Po) : Prop :=
  ((q_Poly_is_zero p') = false → v_monic_2 p')
noncomputable def q_monic (p' : Po) : Po :=
  q_monic_0 p'
def v_monic (p' : Po) : Prop :=
  v_monic_0 p'
noncomputable def q_common_divisor_5 (first' : Po) (second' : Po) (rest' : Po) : Po × Po :=
  (first', q_primitive rest')
def v_common_divisor_5 (first' : Po) (second' : Po) (rest' : Po) : Prop :=
  v_primitive rest'
noncomputable def q_common_divisor_4 (first' : Po) (second' : Po) (rest' : Po) : Po × Po :=
  q_common_divisor_5 second' second' rest'
def v_common_divisor_4 (first' : Po) (second' : Po) (rest' : Po) : Prop :=
  v_common_divisor_5 second' second' rest'
noncomputable def q_common_divisor_3 (first' : Po) (second' : Po) : Po × Po :=
  q_common_divisor_4 first' second' ((q_divide first' second').2)
def v_common_divisor_3 (first' : Po) (second' : Po) : Prop :=
  (v_divide first' second' ∧ v_common_divisor_4 first' second' ((q_divide first' second').2))
noncomputable def q_common_divisor_6 (first' : Po) (second' : Po) : Po × Po :=
  wh (fun (s1 : Po × Po) => (!(q_Poly_is_zero s1.2))) (fun (s1 : Po × Po) => q_common_divisor_3 s1.1 s1.2) (first', second')
noncomputable def q_common_divisor_7 (first' : Po) : Po :=
  q_monic first'
def v_common_divisor_7 (first' : Po) : Prop :=
  v_monic first'
noncomputable def q_common_divisor_2 (first' : Po) (second' : Po) : Po :=
  q_common_divisor_7 ((q_common_divisor_6 first' second').1)
def v_common_divisor_2 (first' : Po) (second' : Po) : Prop :=
  (whV (fun (s1 : Po × Po) => (!(q_Poly_is_zero s1.2))) (fun (s1 : Po × Po) => True) (fun (s1 : Po × Po) => q_common_divisor_3 s1.1 s1.2) (fun (s1 : Po × Po) => v_common_divisor_3 s1.1 s1.2) (first', second') ∧ v_common_divisor_7 ((q_common_divisor_6 first' second').1))
noncomputable def q_common_divisor_1 (q' : Po) (first' : Po) : Po :=
  q_common_divisor_2 first' (q_primitive q')
def v_common_divisor_1 (q' : Po) (first' : Po) : Prop :=
  (v_primitive q' ∧ v_common_divisor_2 first' (q_primitive q'))
noncomputable def q_common_divisor_0 (p' : Po) (q' : Po) : Po :=
  q_common_divisor_1 q' (q_primitive p')
def v_common_divisor_0 (p' : Po) (q' : Po) : Prop :=
  (v_primitive p' ∧ v_common_divisor_1 q' (q_primitive p'))
noncomputable def q_common_divisor (p' : Po) (q' : Po) : Po :=
  q_common_divisor_0 p' q'
def v_common_divisor (p' : Po) (q' : Po) : Prop :=
  v_common_divisor_0 p' q'
noncomputable def q_Quotient_init_5 (reduced' : Po) (factor' : Fr) (sf_num : Po) : Po × Po :=
  (sf_num, q_Poly_scaled reduced' factor')
def v_Quotient_init_5 (reduced' : Po) (factor' : Fr) (sf_num : Po) : Prop :=
  v_Poly_scaled reduced' factor'
noncomputable def q_Quotient_init_4 (num' : Po) (divisor' : Po) (reduced' : Po) (factor' : Fr) : Po × Po :=
  q_Quotient_init_5 reduced' factor' (q_Poly_scaled (q_exact num' divisor') factor')
def v_Quotient_init_4 (num' : Po) (divisor' : Po) (reduced' : Po) (factor' : Fr) : Prop :=
  (v_exact num' divisor' ∧ v_Poly_scaled (q_exact num' divisor') factor' ∧ v_Quotient_init_5 reduced' factor' (q_Poly_scaled (q_exact num' divisor') factor'))
noncomputable def q_Quotient_init_3 (num' : Po) (divisor' : Po) (reduced' : Po) : Po × Po :=
  q_Quotient_init_4 num' divisor' reduced' (q_Fraction_over (q_Fraction_init (1 : Int) (1 : Int)) (q_Poly_lead reduced'))
def v_Quotient_init_3 (num' : Po) (divisor' : Po) (reduced' : Po) : Prop :=
  (v_Fraction_init (1 : Int) (1 : Int) ∧ v_Poly_lead reduced' ∧ v_Fraction_over (q_Fraction_init (1 : Int) (1 : Int)) (q_Poly_lead reduced') ∧ v_Quotient_init_4 num' divisor' reduced' (q_Fraction_over (q_Fraction_init (1 : Int) (1 : Int)) (q_Poly_lead reduced')))
noncomputable def q_Quotient_init_2 (num' : Po) (den' : Po) (divisor' : Po) : Po × Po :=
  q_Quotient_init_3 num' divisor' (q_exact den' divisor')
def v_Quotient_init_2 (num' : Po) (den' : Po) (divisor' : Po) : Prop :=
  (v_exact den' divisor' ∧ v_Quotient_init_3 num' divisor' (q_exact den' divisor'))
noncomputable def q_Quotient_init_1 (num' : Po) (den' : Po) : Po × Po :=
  q_Quotient_init_2 num' den' (q_common_divisor num' den')
def v_Quotient_init_1 (num' : Po) (den' : Po) : Prop :=
  (v_common_divisor num' den' ∧ v_Quotient_init_2 num' den' (q_common_divisor num' den'))
noncomputable def q_Quotient_init_0 (num' : Po) (den' : Po) : Po × Po :=
  q_Quotient_init_1 num' den'
def v_Quotient_init_0 (num' : Po) (den' : Po) : Prop :=
  ((q_Poly_is_zero den') = false ∧ v_Quotient_init_1 num' den')
noncomputable def q_Quotient_init (num' : Po) (den' : Po) : Qt :=
  ⟨(q_Quotient_init_0 num' den').1, (q_Quotient_init_0 num' den').2⟩
def v_Quotient_init (num' : Po) (den' : Po) : Prop :=
  v_Quotient_init_0 num' den'
noncomputable def q_Quotient_add_0 (self' : Qt) (other' : Qt) : Qt :=
  q_Quotient_init (q_Poly_add (q_Poly_mul self'.num other'.den) (q_Poly_mul other'.num self'.den)) (q_Poly_mul self'.den other'.den)
def v_Quotient_add_0 (self' : Qt) (other' : Qt) : Prop :=
  (v_Poly_mul self'.num other'.den ∧ v_Poly_mul other'.num self'.den ∧ v_Poly_add (q_Poly_mul self'.num other'.den) (q_Poly_mul other'.num self'.den) ∧ v_Poly_mul self'.den other'.den ∧ v_Quotient_init (q_Poly_add (q_Poly_mul self'.num other'.den) (q_Poly_mul other'.num self'.den)) (q_Poly_mul self'.den other'.den))
noncomputable def q_Quotient_add (self' : Qt) (other' : Qt) : Qt :=
  q_Quotient_add_0 self' other'
def v_Quotient_add (self' : Qt) (other' : Qt) : Prop :=
  v_Quotient_add_0 self' other'
noncomputable def q_law_cross_4 (sign' : Int) (left' : List Int) (right' : List Int) (result' : List Int) (k' : Int) : (List Int) :=
  setT result' k' ((gt result' k') + (gt left' k'))
def v_law_cross_4 (sign' : Int) (left' : List Int) (right' : List Int) (result' : List Int) (k' : Int) : Prop :=
  (inR result' k' ∧ inR left' k' ∧ inR result' k')
noncomputable def q_law_cross_5 (sign' : Int) (left' : List Int) (right' : List Int) (result' : List Int) : (List Int) :=
  (rngT 0 (left'.length : Int)).foldl (fun (s3 : (List Int)) (x4 : Int) => q_law_cross_4 sign' left' right' s3 x4) result'
noncomputable def q_law_cross_7 (sign' : Int) (right' : List Int) (result' : List Int) (k' : Int) : (List Int) :=
  setT result' k' ((gt result' k') + (sign' * (gt right' k')))
def v_law_cross_7 (sign' : Int) (right' : List Int) (result' : List Int) (k' : Int) : Prop :=
  (inR result' k' ∧ inR right' k' ∧ mulOk sign' (gt right' k') = true ∧ inR result' k')
noncomputable def q_law_cross_8 (sign' : Int) (right' : List Int) (result' : List Int) : (List Int) :=
  (rngT 0 (right'.length : Int)).foldl (fun (s6 : (List Int)) (x7 : Int) => q_law_cross_7 sign' right' s6 x7) result'
noncomputable def q_law_cross_9 (result' : List Int) : List Int :=
  result'
noncomputable def q_law_cross_6 (sign' : Int) (right' : List Int) (result' : List Int) : List Int :=
  q_law_cross_9 (q_law_cross_8 sign' right' result')
def v_law_cross_6 (sign' : Int) (right' : List Int) (result' : List Int) : Prop :=
  (rOk (right'.length : Int) = true ∧ forV (fun (s6 : (List Int)) (x7 : Int) => v_law_cross_7 sign' right' s6 x7) (fun (s6 : (List Int)) (x7 : Int) => q_law_cross_7 sign' right' s6 x7) (rngT 0 (right'.length : Int)) result')
noncomputable def q_law_cross_3 (sign' : Int) (left' : List Int) (right' : List Int) (result' : List Int) : List Int :=
  q_law_cross_6 sign' right' (q_law_cross_5 sign' left' right' result')
def v_law_cross_3 (sign' : Int) (left' : List Int) (right' : List Int) (result' : List Int) : Prop :=
  (rOk (left'.length : Int) = true ∧ forV (fun (s3 : (List Int)) (x4 : Int) => v_law_cross_4 sign' left' right' s3 x4) (fun (s3 : (List Int)) (x4 : Int) => q_law_cross_4 sign' left' right' s3 x4) (rngT 0 (left'.length : Int)) result' ∧ v_law_cross_6 sign' right' (q_law_cross_5 sign' left' right' result'))
noncomputable def q_law_cross_2 (sign' : Int) (left' : List Int) (right' : List Int) : List Int :=
  q_law_cross_3 sign' left' right' ((rngT 0 (max (left'.length : Int) (right'.length : Int))).map fun (x1 : Int) => (0 : Int))
def v_law_cross_2 (sign' : Int) (left' : List Int) (right' : List Int) : Prop :=
  (rOk (max (left'.length : Int) (right'.length : Int)) = true ∧ (rngT 0 (max (left'.length : Int) (right'.length : Int))).length ≤ LINE ∧ v_law_cross_3 sign' left' right' ((rngT 0 (max (left'.length : Int) (right'.length : Int))).map fun (x1 : Int) => (0 : Int)))
noncomputable def q_law_cross_1 (b' : List Int) (c' : List Int) (sign' : Int) (left' : List Int) : List Int :=
  q_law_cross_2 sign' left' (q_law_product c' b')
def v_law_cross_1 (b' : List Int) (c' : List Int) (sign' : Int) (left' : List Int) : Prop :=
  (v_law_product c' b' ∧ v_law_cross_2 sign' left' (q_law_product c' b'))
noncomputable def q_law_cross_0 (a' : List Int) (b' : List Int) (c' : List Int) (d' : List Int) (sign' : Int) : List Int :=
  q_law_cross_1 b' c' sign' (q_law_product a' d')
def v_law_cross_0 (a' : List Int) (b' : List Int) (c' : List Int) (d' : List Int) (sign' : Int) : Prop :=
  (v_law_product a' d' ∧ v_law_cross_1 b' c' sign' (q_law_product a' d'))
noncomputable def q_law_cross (a' : List Int) (b' : List Int) (c' : List Int) (d' : List Int) (sign' : Int) : List Int :=
  q_law_cross_0 a' b' c' d' sign'
def v_law_cross (a' : List Int) (b' : List Int) (c' : List Int) (d' : List Int) (sign' : Int) : Prop :=
  v_law_cross_0 a' b' c' d' sign'
noncomputable def q_law_reduced_2 (p' : List Int) (shared' : Int) (number' : Int) : Int :=
  q_law_divisor shared' number'
def v_law_reduced_2 (p' : List Int) (shared' : Int) (number' : Int) : Prop :=
  v_law_divisor shared' number'
noncomputable def q_law_reduced_3 (p' : List Int) (shared' : Int) : Int :=
  p'.foldl (fun (s1 : Int) (x2 : Int) => q_law_reduced_2 p' s1 x2) shared'
noncomputable def q_law_reduced_5  : List Int :=
  ([] : List Int)
noncomputable def q_law_reduced_6 (p' : List Int) (shared' : Int) : List Int :=
  (p'.map fun (x5 : Int) => (Int.fdiv x5 shared'))
def v_law_reduced_6 (p' : List Int) (shared' : Int) : Prop :=
  ((∀ x5, x5 ∈ p' → shared' ≠ 0) ∧ p'.length ≤ LINE)
noncomputable def q_law_reduced_4 (p' : List Int) (shared' : Int) : List Int :=
  if (decide (shared' = (0 : Int))) then q_law_reduced_5 else q_law_reduced_6 p' shared'
def v_law_reduced_4 (p' : List Int) (shared' : Int) : Prop :=
  ((decide (shared' = (0 : Int))) = false → v_law_reduced_6 p' shared')
noncomputable def q_law_reduced_1 (p' : List Int) (shared' : Int) : List Int :=
  q_law_reduced_4 p' (q_law_reduced_3 p' shared')
def v_law_reduced_1 (p' : List Int) (shared' : Int) : Prop :=
  (forV (fun (s1 : Int) (x2 : Int) => v_law_reduced_2 p' s1 x2) (fun (s1 : Int) (x2 : Int) => q_law_reduced_2 p' s1 x2) p' shared' ∧ v_law_reduced_4 p' (q_law_reduced_3 p' shared'))
noncomputable def q_law_reduced_0 (p' : List Int) : List Int :=
  q_law_reduced_1 p' (0 : Int)
def v_law_reduced_0 (p' : List Int) : Prop :=
  v_law_reduced_1 p' (0 : Int)
noncomputable def q_law_reduced (p' : List Int) : List Int :=
  q_law_reduced_0 p'
def v_law_reduced (p' : List Int) : Prop :=
  v_law_reduced_0 p'
noncomputable def q_law_rest_7 (q' : List Int) (rest_here' : List Int) (top' : Int) (place' : Int) (i' : Int) : (List Int) :=
  setT rest_here' (place' + i') ((gt rest_here' (place' + i')) - (top' * (gt q' i')))
def v_law_rest_7 (q' : List Int) (rest_here' : List Int) (top' : Int) (place' : Int) (i' : Int) : Prop :=
  (inR rest_here' (place' + i') ∧ inR q' i' ∧ mulOk top' (gt q' i') = true ∧ inR rest_here' (place' + i'))
noncomputable def q_law_rest_8 (q' : List Int) (rest_here' : List Int) (top' : Int) (place' : Int) : (List Int) :=
  (rngT 0 (q'.length : Int)).foldl (fun (s4 : (List Int)) (x5 : Int) => q_law_rest_7 q' s4 top' place' x5) rest_here'
noncomputable def q_law_rest_9 (q' : List Int) (rest_here' : List Int) : (List Int) :=
  (cutT rest_here' none (some (-(1 : Int))))
noncomputable def q_law_rest_6 (q' : List Int) (rest_here' : List Int) (top' : Int) (place' : Int) : (List Int) :=
  q_law_rest_9 q' (q_law_rest_8 q' rest_here' top' place')
def v_law_rest_6 (q' : List Int) (rest_here' : List Int) (top' : Int) (place' : Int) : Prop :=
  (rOk (q'.length : Int) = true ∧ forV (fun (s4 : (List Int)) (x5 : Int) => v_law_rest_7 q' s4 top' place' x5) (fun (s4 : (List Int)) (x5 : Int) => q_law_rest_7 q' s4 top' place' x5) (rngT 0 (q'.length : Int)) rest_here')
noncomputable def q_law_rest_5 (q' : List Int) (rest_here' : List Int) (top' : Int) (place' : Int) : (List Int) :=
  q_law_rest_6 q' (rest_here'.map fun (x2 : Int) => ((gt q' (-(1 : Int))) * x2)) top' place'
def v_law_rest_5 (q' : List Int) (rest_here' : List Int) (top' : Int) (place' : Int) : Prop :=
  ((∀ x2, x2 ∈ rest_here' → (inR q' (-(1 : Int)) ∧ mulOk (gt q' (-(1 : Int))) x2 = true)) ∧ rest_here'.length ≤ LINE ∧ v_law_rest_6 q' (rest_here'.map fun (x2 : Int) => ((gt q' (-(1 : Int))) * x2)) top' place')
noncomputable def q_law_rest_4 (q' : List Int) (rest_here' : List Int) (top' : Int) : (List Int) :=
  q_law_rest_5 q' rest_here' top' ((rest_here'.length : Int) - (q'.length : Int))
def v_law_rest_4 (q' : List Int) (rest_here' : List Int) (top' : Int) : Prop :=
  v_law_rest_5 q' rest_here' top' ((rest_here'.length : Int) - (q'.length : Int))
noncomputable def q_law_rest_3 (q' : List Int) (rest_here' : List Int) : (List Int) :=
  q_law_rest_4 q' rest_here' (gt rest_here' (-(1 : Int)))
def v_law_rest_3 (q' : List Int) (rest_here' : List Int) : Prop :=
  (inR rest_here' (-(1 : Int)) ∧ v_law_rest_4 q' rest_here' (gt rest_here' (-(1 : Int))))
noncomputable def q_law_rest_2 (q' : List Int) (rest_here' : List Int) : (List Int) :=
  if (decide ((rest_here'.length : Int) ≥ (q'.length : Int))) then q_law_rest_3 q' rest_here' else rest_here'
def v_law_rest_2 (q' : List Int) (rest_here' : List Int) : Prop :=
  ((decide ((rest_here'.length : Int) ≥ (q'.length : Int))) = true → v_law_rest_3 q' rest_here')
noncomputable def q_law_rest_10 (p' : List Int) (q' : List Int) (rest_here' : List Int) : (List Int) :=
  (rngT 0 (p'.length : Int)).foldl (fun (s7 : (List Int)) (x8 : Int) => q_law_rest_2 q' s7) rest_here'
noncomputable def q_law_rest_11 (rest_here' : List Int) : List Int :=
  q_law_trimmed rest_here'
def v_law_rest_11 (rest_here' : List Int) : Prop :=
  v_law_trimmed rest_here'
noncomputable def q_law_rest_1 (p' : List Int) (q' : List Int) (rest_here' : List Int) : List Int :=
  q_law_rest_11 (q_law_rest_10 p' q' rest_here')
def v_law_rest_1 (p' : List Int) (q' : List Int) (rest_here' : List Int) : Prop :=
  (rOk (p'.length : Int) = true ∧ forV (fun (s7 : (List Int)) (x8 : Int) => v_law_rest_2 q' s7) (fun (s7 : (List Int)) (x8 : Int) => q_law_rest_2 q' s7) (rngT 0 (p'.length : Int)) rest_here' ∧ v_law_rest_11 (q_law_rest_10 p' q' rest_here'))
noncomputable def q_law_rest_0 (p' : List Int) (q' : List Int) : List Int :=
  q_law_rest_1 p' q' p'
def v_law_rest_0 (p' : List Int) (q' : List Int) : Prop :=
  v_law_rest_1 p' q' p'
noncomputable def q_law_rest (p' : List Int) (q' : List Int) : List Int :=
  q_law_rest_0 p' q'
def v_law_rest (p' : List Int) (q' : List Int) : Prop :=
  v_law_rest_0 p' q'
noncomputable def q_law_degree_6 (first' : List Int) (second' : List Int) (rest_here' : List Int) : (List Int) × (List Int) :=
  (first', rest_here')
noncomputable def q_law_degree_5 (first' : List Int) (second' : List Int) (rest_here' : List Int) : (List Int) × (List Int) :=
  q_law_degree_6 second' second' rest_here'
noncomputable def q_law_degree_4 (first' : List Int) (second' : List Int) : (List Int) × (List Int) :=
  q_law_degree_5 first' second' (q_law_reduced (q_law_rest first' second'))
def v_law_degree_4 (first' : List Int) (second' : List Int) : Prop :=
  (v_law_rest first' second' ∧ v_law_reduced (q_law_rest first' second'))
noncomputable def q_law_degree_3 (first' : List Int) (second' : List Int) : (List Int) × (List Int) :=
  if (decide ((second'.length : Int) > (0 : Int))) then q_law_degree_4 first' second' else (first', second')
def v_law_degree_3 (first' : List Int) (second' : List Int) : Prop :=
  ((decide ((second'.length : Int) > (0 : Int))) = true → v_law_degree_4 first' second')
noncomputable def q_law_degree_7 (p' : List Int) (q' : List Int) (first' : List Int) (second' : List Int) : (List Int) × (List Int) :=
  (rngT 0 (((p'.length : Int) + (q'.length : Int)) + (2 : Int))).foldl (fun (s3 : (List Int) × (List Int)) (x4 : Int) => q_law_degree_3 s3.1 s3.2) (first', second')
noncomputable def q_law_degree_8 (first' : List Int) : Int :=
  ((first'.length : Int) - (1 : Int))
noncomputable def q_law_degree_2 (p' : List Int) (q' : List Int) (first' : List Int) (second' : List Int) : Int :=
  q_law_degree_8 ((q_law_degree_7 p' q' first' second').1)
def v_law_degree_2 (p' : List Int) (q' : List Int) (first' : List Int) (second' : List Int) : Prop :=
  (rOk (((p'.length : Int) + (q'.length : Int)) + (2 : Int)) = true ∧ forV (fun (s3 : (List Int) × (List Int)) (x4 : Int) => v_law_degree_3 s3.1 s3.2) (fun (s3 : (List Int) × (List Int)) (x4 : Int) => q_law_degree_3 s3.1 s3.2) (rngT 0 (((p'.length : Int) + (q'.length : Int)) + (2 : Int))) (first', second'))
noncomputable def q_law_degree_1 (p' : List Int) (q' : List Int) (first' : List Int) : Int :=
  q_law_degree_2 p' q' first' (q_law_reduced (q_law_trimmed q'))
def v_law_degree_1 (p' : List Int) (q' : List Int) (first' : List Int) : Prop :=
  (v_law_trimmed q' ∧ v_law_reduced (q_law_trimmed q') ∧ v_law_degree_2 p' q' first' (q_law_reduced (q_law_trimmed q')))
noncomputable def q_law_degree_0 (p' : List Int) (q' : List Int) : Int :=
  q_law_degree_1 p' q' (q_law_reduced (q_law_trimmed p'))
def v_law_degree_0 (p' : List Int) (q' : List Int) : Prop :=
  (v_law_trimmed p' ∧ v_law_reduced (q_law_trimmed p') ∧ v_law_degree_1 p' q' (q_law_reduced (q_law_trimmed p')))
noncomputable def q_law_degree (p' : List Int) (q' : List Int) : Int :=
  q_law_degree_0 p' q'
def v_law_degree (p' : List Int) (q' : List Int) : Prop :=
  v_law_degree_0 p' q'
noncomputable def q_law_quotient_is_1  : Bool :=
  false
noncomputable def q_law_quotient_is_5  : Bool :=
  false
noncomputable def q_law_quotient_is_7  : Bool :=
  false
noncomputable def q_law_quotient_is_10 (left' : List Int) (right' : List Int) : Bool :=
  (decide (left' = right'))
noncomputable def q_law_quotient_is_9 (q' : Qt) (num' : List Int) (below' : List Int) (left' : List Int) : Bool :=
  q_law_quotient_is_10 left' (q_law_trimmed ((q_law_product num' below').map fun (x11 : Int) => (x11 * q'.num.den)))
def v_law_quotient_is_9 (q' : Qt) (num' : List Int) (below' : List Int) (left' : List Int) : Prop :=
  (v_law_product num' below' ∧ (∀ x11, x11 ∈ (q_law_product num' below') → mulOk x11 q'.num.den = true) ∧ (q_law_product num' below').length ≤ LINE ∧ v_law_trimmed ((q_law_product num' below').map fun (x11 : Int) => (x11 * q'.num.den)))
noncomputable def q_law_quotient_is_8 (q' : Qt) (num' : List Int) (den' : List Int) (above' : List Int) (below' : List Int) : Bool :=
  q_law_quotient_is_9 q' num' below' (q_law_trimmed ((q_law_product above' den').map fun (x9 : Int) => (x9 * q'.den.den)))
def v_law_quotient_is_8 (q' : Qt) (num' : List Int) (den' : List Int) (above' : List Int) (below' : List Int) : Prop :=
  (v_law_product above' den' ∧ (∀ x9, x9 ∈ (q_law_product above' den') → mulOk x9 q'.den.den = true) ∧ (q_law_product above' den').length ≤ LINE ∧ v_law_trimmed ((q_law_product above' den').map fun (x9 : Int) => (x9 * q'.den.den)) ∧ v_law_quotient_is_9 q' num' below' (q_law_trimmed ((q_law_product above' den').map fun (x9 : Int) => (x9 * q'.den.den))))
noncomputable def q_law_quotient_is_6 (q' : Qt) (num' : List Int) (den' : List Int) (above' : List Int) (below' : List Int) : Bool :=
  if ((decide ((below'.length : Int) = (0 : Int))) || ((!decide ((gt below' (-(1 : Int))) = q'.den.den)) || (!decide ((q_law_degree above' below') = (0 : Int))))) then q_law_quotient_is_7 else q_law_quotient_is_8 q' num' den' above' below'
def v_law_quotient_is_6 (q' : Qt) (num' : List Int) (den' : List Int) (above' : List Int) (below' : List Int) : Prop :=
  (((decide ((below'.length : Int) = (0 : Int))) = false → (inR below' (-(1 : Int)) ∧ ((!decide ((gt below' (-(1 : Int))) = q'.den.den)) = false → v_law_degree above' below'))) ∧ (((decide ((below'.length : Int) = (0 : Int))) || ((!decide ((gt below' (-(1 : Int))) = q'.den.den)) || (!decide ((q_law_degree above' below') = (0 : Int))))) = false → v_law_quotient_is_8 q' num' den' above' below'))
noncomputable def q_law_quotient_is_4 (q' : Qt) (num' : List Int) (den' : List Int) (above' : List Int) (below' : List Int) : Bool :=
  if ((!(q_law_poly_is q'.num above' q'.num.den)) || (!(q_law_poly_is q'.den below' q'.den.den))) then q_law_quotient_is_5 else q_law_quotient_is_6 q' num' den' above' below'
def v_law_quotient_is_4 (q' : Qt) (num' : List Int) (den' : List Int) (above' : List Int) (below' : List Int) : Prop :=
  (v_law_poly_is q'.num above' q'.num.den ∧ ((!(q_law_poly_is q'.num above' q'.num.den)) = false → v_law_poly_is q'.den below' q'.den.den) ∧ (((!(q_law_poly_is q'.num above' q'.num.den)) || (!(q_law_poly_is q'.den below' q'.den.den))) = false → v_law_quotient_is_6 q' num' den' above' below'))
noncomputable def q_law_quotient_is_3 (q' : Qt) (num' : List Int) (den' : List Int) (above' : List Int) : Bool :=
  q_law_quotient_is_4 q' num' den' above' q'.den.coefs
def v_law_quotient_is_3 (q' : Qt) (num' : List Int) (den' : List Int) (above' : List Int) : Prop :=
  v_law_quotient_is_4 q' num' den' above' q'.den.coefs
noncomputable def q_law_quotient_is_2 (q' : Qt) (num' : List Int) (den' : List Int) : Bool :=
  q_law_quotient_is_3 q' num' den' q'.num.coefs
def v_law_quotient_is_2 (q' : Qt) (num' : List Int) (den' : List Int) : Prop :=
  v_law_quotient_is_3 q' num' den' q'.num.coefs
noncomputable def q_law_quotient_is_0 (q' : Qt) (num' : List Int) (den' : List Int) : Bool :=
  if ((!true) || ((!true) || (!true))) then q_law_quotient_is_1 else q_law_quotient_is_2 q' num' den'
def v_law_quotient_is_0 (q' : Qt) (num' : List Int) (den' : List Int) : Prop :=
  (((!true) || ((!true) || (!true))) = false → v_law_quotient_is_2 q' num' den')
noncomputable def q_law_quotient_is (q' : Qt) (num' : List Int) (den' : List Int) : Bool :=
  q_law_quotient_is_0 q' num' den'
def v_law_quotient_is (q' : Qt) (num' : List Int) (den' : List Int) : Prop :=
  v_law_quotient_is_0 q' num' den'
noncomputable def q_Quotient_sub_0 (self' : Qt) (other' : Qt) : Qt :=
  q_Quotient_init (q_Poly_sub (q_Poly_mul self'.num other'.den) (q_Poly_mul other'.num self'.den)) (q_Poly_mul self'.den other'.den)
def v_Quotient_sub_0 (self' : Qt) (other' : Qt) : Prop :=
  (v_Poly_mul self'.num other'.den ∧ v_Poly_mul other'.num self'.den ∧ v_Poly_sub (q_Poly_mul self'.num other'.den) (q_Poly_mul other'.num self'.den) ∧ v_Poly_mul self'.den other'.den ∧ v_Quotient_init (q_Poly_sub (q_Poly_mul self'.num other'.den) (q_Poly_mul other'.num self'.den)) (q_Poly_mul self'.den other'.den))
noncomputable def q_Quotient_sub (self' : Qt) (other' : Qt) : Qt :=
  q_Quotient_sub_0 self' other'
def v_Quotient_sub (self' : Qt) (other' : Qt) : Prop :=
  v_Quotient_sub_0 self' other'
noncomputable def q_Quotient_mul_0 (self' : Qt) (other' : Qt) : Qt :=
  q_Quotient_init (q_Poly_mul self'.num other'.num) (q_Poly_mul self'.den other'.den)
def v_Quotient_mul_0 (self' : Qt) (other' : Qt) : Prop :=
  (v_Poly_mul self'.num other'.num ∧ v_Poly_mul self'.den other'.den ∧ v_Quotient_init (q_Poly_mul self'.num other'.num) (q_Poly_mul self'.den other'.den))
noncomputable def q_Quotient_mul (self' : Qt) (other' : Qt) : Qt :=
  q_Quotient_mul_0 self' other'
def v_Quotient_mul (self' : Qt) (other' : Qt) : Prop :=
  v_Quotient_mul_0 self' other'
noncomputable def q_Quotient_neg_0 (self' : Qt) : Qt :=
  q_Quotient_init (q_Poly_neg self'.num) self'.den
def v_Quotient_neg_0 (self' : Qt) : Prop :=
  (v_Poly_neg self'.num ∧ v_Quotient_init (q_Poly_neg self'.num) self'.den)
noncomputable def q_Quotient_neg (self' : Qt) : Qt :=
  q_Quotient_neg_0 self'
def v_Quotient_neg (self' : Qt) : Prop :=
  v_Quotient_neg_0 self'
noncomputable def q_Quotient_over_1 (self' : Qt) (other' : Qt) : Qt :=
  q_Quotient_init (q_Poly_mul self'.num other'.den) (q_Poly_mul self'.den other'.num)
def v_Quotient_over_1 (self' : Qt) (other' : Qt) : Prop :=
  (v_Poly_mul self'.num other'.den ∧ v_Poly_mul self'.den other'.num ∧ v_Quotient_init (q_Poly_mul self'.num other'.den) (q_Poly_mul self'.den other'.num))
noncomputable def q_Quotient_over_0 (self' : Qt) (other' : Qt) : Qt :=
  q_Quotient_over_1 self' other'
def v_Quotient_over_0 (self' : Qt) (other' : Qt) : Prop :=
  ((q_Poly_is_zero other'.num) = false ∧ v_Quotient_over_1 self' other')
noncomputable def q_Quotient_over (self' : Qt) (other' : Qt) : Qt :=
  q_Quotient_over_0 self' other'
def v_Quotient_over (self' : Qt) (other' : Qt) : Prop :=
  v_Quotient_over_0 self' other'
noncomputable def q_law_at_4 (x' : Int) (total' : Int) (power' : Int) : Int × Int :=
  (total', (power' * x'))
def v_law_at_4 (x' : Int) (total' : Int) (power' : Int) : Prop :=
  mulOk power' x' = true
noncomputable def q_law_at_3 (x' : Int) (total' : Int) (power' : Int) (number' : Int) : Int × Int :=
  q_law_at_4 x' (total' + (number' * power')) power'
def v_law_at_3 (x' : Int) (total' : Int) (power' : Int) (number' : Int) : Prop :=
  (mulOk number' power' = true ∧ v_law_at_4 x' (total' + (number' * power')) power')
noncomputable def q_law_at_5 (coefs_here' : List Int) (x' : Int) (total' : Int) (power' : Int) : Int × Int :=
  coefs_here'.foldl (fun (s1 : Int × Int) (x2 : Int) => q_law_at_3 x' s1.1 s1.2 x2) (total', power')
noncomputable def q_law_at_6 (total' : Int) : Int :=
  total'
noncomputable def q_law_at_2 (coefs_here' : List Int) (x' : Int) (total' : Int) (power' : Int) : Int :=
  q_law_at_6 ((q_law_at_5 coefs_here' x' total' power').1)
def v_law_at_2 (coefs_here' : List Int) (x' : Int) (total' : Int) (power' : Int) : Prop :=
  forV (fun (s1 : Int × Int) (x2 : Int) => v_law_at_3 x' s1.1 s1.2 x2) (fun (s1 : Int × Int) (x2 : Int) => q_law_at_3 x' s1.1 s1.2 x2) coefs_here' (total', power')
noncomputable def q_law_at_1 (coefs_here' : List Int) (x' : Int) (total' : Int) : Int :=
  q_law_at_2 coefs_here' x' total' (1 : Int)
def v_law_at_1 (coefs_here' : List Int) (x' : Int) (total' : Int) : Prop :=
  v_law_at_2 coefs_here' x' total' (1 : Int)
noncomputable def q_law_at_0 (coefs_here' : List Int) (x' : Int) : Int :=
  q_law_at_1 coefs_here' x' (0 : Int)
def v_law_at_0 (coefs_here' : List Int) (x' : Int) : Prop :=
  v_law_at_1 coefs_here' x' (0 : Int)
noncomputable def q_law_at (coefs_here' : List Int) (x' : Int) : Int :=
  q_law_at_0 coefs_here' x'
def v_law_at (coefs_here' : List Int) (x' : Int) : Prop :=
  v_law_at_0 coefs_here' x'
noncomputable def q_Quotient_at_2 (self' : Qt) (k' : Int) (below' : Fr) : Fr :=
  q_Fraction_over (q_Poly_at self'.num k') below'
def v_Quotient_at_2 (self' : Qt) (k' : Int) (below' : Fr) : Prop :=
  (v_Poly_at self'.num k' ∧ v_Fraction_over (q_Poly_at self'.num k') below')
noncomputable def q_Quotient_at_1 (self' : Qt) (k' : Int) (below' : Fr) : Fr :=
  q_Quotient_at_2 self' k' below'
def v_Quotient_at_1 (self' : Qt) (k' : Int) (below' : Fr) : Prop :=
  ((decide (below'.num = (0 : Int))) = false ∧ v_Quotient_at_2 self' k' below')
noncomputable def q_Quotient_at_0 (self' : Qt) (k' : Int) : Fr :=
  q_Quotient_at_1 self' k' (q_Poly_at self'.den k')
def v_Quotient_at_0 (self' : Qt) (k' : Int) : Prop :=
  (v_Poly_at self'.den k' ∧ v_Quotient_at_1 self' k' (q_Poly_at self'.den k'))
noncomputable def q_Quotient_at (self' : Qt) (k' : Int) : Fr :=
  q_Quotient_at_0 self' k'
def v_Quotient_at (self' : Qt) (k' : Int) : Prop :=
  v_Quotient_at_0 self' k'
noncomputable def q_Quotient_shifted_0 (self' : Qt) (step' : Int) : Qt :=
  q_Quotient_init (q_Poly_shifted self'.num step') (q_Poly_shifted self'.den step')
def v_Quotient_shifted_0 (self' : Qt) (step' : Int) : Prop :=
  (v_Poly_shifted self'.num step' ∧ v_Poly_shifted self'.den step' ∧ v_Quotient_init (q_Poly_shifted self'.num step') (q_Poly_shifted self'.den step'))
noncomputable def q_Quotient_shifted (self' : Qt) (step' : Int) : Qt :=
  q_Quotient_shifted_0 self' step'
def v_Quotient_shifted (self' : Qt) (step' : Int) : Prop :=
  v_Quotient_shifted_0 self' step'
noncomputable def q_is_settled_1  : Bool :=
  false
noncomputable def q_is_settled_3 (p' : Po) : Bool :=
  (decide ((minT p'.coefs) ≥ (0 : Int)))
def v_is_settled_3 (p' : Po) : Prop :=
  p'.coefs ≠ []
noncomputable def q_is_settled_4 (p' : Po) : Bool :=
  (decide ((maxT p'.coefs) ≤ (0 : Int)))
def v_is_settled_4 (p' : Po) : Prop :=
  p'.coefs ≠ []
noncomputable def q_is_settled_2 (p' : Po) : Bool :=
  if (decide ((gt p'.coefs (0 : Int)) > (0 : Int))) then q_is_settled_3 p' else q_is_settled_4 p'
def v_is_settled_2 (p' : Po) : Prop :=
  (inR p'.coefs (0 : Int) ∧ ((decide ((gt p'.coefs (0 : Int)) > (0 : Int))) = true → v_is_settled_3 p') ∧ ((decide ((gt p'.coefs (0 : Int)) > (0 : Int))) = false → v_is_settled_4 p'))
noncomputable def q_is_settled_0 (p' : Po) : Bool :=
  if ((q_Poly_is_zero p') || (decide ((gt p'.coefs (0 : Int)) = (0 : Int)))) then q_is_settled_1 else q_is_settled_2 p'
def v_is_settled_0 (p' : Po) : Prop :=
  (((q_Poly_is_zero p') = false → inR p'.coefs (0 : Int)) ∧ (((q_Poly_is_zero p') || (decide ((gt p'.coefs (0 : Int)) = (0 : Int)))) = false → v_is_settled_2 p'))
noncomputable def q_is_settled (p' : Po) : Bool :=
  q_is_settled_0 p'
def v_is_settled (p' : Po) : Prop :=
  v_is_settled_0 p'
noncomputable def q_settled_from_2 (start' : Int) : Int :=
  start'
noncomputable def q_settled_from_5 (p' : Po) (start' : Int) (step' : Int) : Int :=
  (step' * (2 : Int))
def v_settled_from_5 (p' : Po) (start' : Int) (step' : Int) : Prop :=
  mulOk step' (2 : Int) = true
noncomputable def q_settled_from_6 (p' : Po) (start' : Int) (step' : Int) : Int :=
  wh (fun (s3 : Int) => (!(q_is_settled (q_Poly_shifted p' (start' + s3))))) (fun (s3 : Int) => q_settled_from_5 p' start' s3) step'
noncomputable def q_settled_from_12 (p' : Po) (low' : Int) (high' : Int) (middle' : Int) : Int × Int :=
  (low', middle')
noncomputable def q_settled_from_13 (p' : Po) (low' : Int) (high' : Int) (middle' : Int) : Int × Int :=
  (middle', high')
noncomputable def q_settled_from_11 (p' : Po) (low' : Int) (high' : Int) (middle' : Int) : Int × Int :=
  if q_is_settled (q_Poly_shifted p' middle') then q_settled_from_12 p' low' high' middle' else q_settled_from_13 p' low' high' middle'
def v_settled_from_11 (p' : Po) (low' : Int) (high' : Int) (middle' : Int) : Prop :=
  (v_Poly_shifted p' middle' ∧ v_is_settled (q_Poly_shifted p' middle'))
noncomputable def q_settled_from_10 (p' : Po) (low' : Int) (high' : Int) : Int × Int :=
  q_settled_from_11 p' low' high' (Int.fdiv (low' + high') (2 : Int))
def v_settled_from_10 (p' : Po) (low' : Int) (high' : Int) : Prop :=
  v_settled_from_11 p' low' high' (Int.fdiv (low' + high') (2 : Int))
noncomputable def q_settled_from_14 (p' : Po) (low' : Int) (high' : Int) : Int × Int :=
  wh (fun (s6 : Int × Int) => (decide ((s6.2 - s6.1) > (1 : Int)))) (fun (s6 : Int × Int) => q_settled_from_10 p' s6.1 s6.2) (low', high')
noncomputable def q_settled_from_15 (high' : Int) : Int :=
  high'
noncomputable def q_settled_from_9 (p' : Po) (low' : Int) (high' : Int) : Int :=
  q_settled_from_15 ((q_settled_from_14 p' low' high').2)
def v_settled_from_9 (p' : Po) (low' : Int) (high' : Int) : Prop :=
  whV (fun (s6 : Int × Int) => (decide ((s6.2 - s6.1) > (1 : Int)))) (fun (s6 : Int × Int) => True) (fun (s6 : Int × Int) => q_settled_from_10 p' s6.1 s6.2) (fun (s6 : Int × Int) => v_settled_from_10 p' s6.1 s6.2) (low', high')
noncomputable def q_settled_from_8 (p' : Po) (start' : Int) (step' : Int) (low' : Int) : Int :=
  q_settled_from_9 p' low' (start' + step')
def v_settled_from_8 (p' : Po) (start' : Int) (step' : Int) (low' : Int) : Prop :=
  v_settled_from_9 p' low' (start' + step')
noncomputable def q_settled_from_7 (p' : Po) (start' : Int) (step' : Int) : Int :=
  q_settled_from_8 p' start' step' (start' + (Int.fdiv step' (2 : Int)))
def v_settled_from_7 (p' : Po) (start' : Int) (step' : Int) : Prop :=
  v_settled_from_8 p' start' step' (start' + (Int.fdiv step' (2 : Int)))
noncomputable def q_settled_from_4 (p' : Po) (start' : Int) (step' : Int) : Int :=
  q_settled_from_7 p' start' (q_settled_from_6 p' start' step')
def v_settled_from_4 (p' : Po) (start' : Int) (step' : Int) : Prop :=
  (whV (fun (s3 : Int) => (!(q_is_settled (q_Poly_shifted p' (start' + s3))))) (fun (s3 : Int) => (v_Poly_shifted p' (start' + s3) ∧ v_is_settled (q_Poly_shifted p' (start' + s3)))) (fun (s3 : Int) => q_settled_from_5 p' start' s3) (fun (s3 : Int) => v_settled_from_5 p' start' s3) step' ∧ v_settled_from_7 p' start' (q_settled_from_6 p' start' step'))
noncomputable def q_settled_from_3 (p' : Po) (start' : Int) : Int :=
  q_settled_from_4 p' start' (1 : Int)
def v_settled_from_3 (p' : Po) (start' : Int) : Prop :=
  v_settled_from_4 p' start' (1 : Int)
noncomputable def q_settled_from_1 (p' : Po) (start' : Int) : Int :=
  if q_is_settled (q_Poly_shifted p' start') then q_settled_from_2 start' else q_settled_from_3 p' start'
def v_settled_from_1 (p' : Po) (start' : Int) : Prop :=
  (v_Poly_shifted p' start' ∧ v_is_settled (q_Poly_shifted p' start') ∧ ((q_is_settled (q_Poly_shifted p' start')) = false → v_settled_from_3 p' start'))
noncomputable def q_settled_from_0 (p' : Po) (start' : Int) : Int :=
  q_settled_from_1 p' start'
def v_settled_from_0 (p' : Po) (start' : Int) : Prop :=
  ((q_Poly_is_zero p') = false ∧ v_settled_from_1 p' start')
noncomputable def q_settled_from (p' : Po) (start' : Int) : Int :=
  q_settled_from_0 p' start'
def v_settled_from (p' : Po) (start' : Int) : Prop :=
  v_settled_from_0 p' start'
noncomputable def q_Poly_degree_0 (self' : Po) : Int :=
  ((self'.coefs.length : Int) - (1 : Int))
noncomputable def q_Poly_degree (self' : Po) : Int :=
  q_Poly_degree_0 self'
noncomputable def q_Poly_coefficient_1 (self' : Po) (index' : Int) : Fr :=
  q_Fraction_init (gt self'.coefs index') self'.den
def v_Poly_coefficient_1 (self' : Po) (index' : Int) : Prop :=
  (inR self'.coefs index' ∧ v_Fraction_init (gt self'.coefs index') self'.den)
noncomputable def q_Poly_coefficient_2  : Fr :=
  q_Fraction_init (0 : Int) (1 : Int)
def v_Poly_coefficient_2  : Prop :=
  v_Fraction_init (0 : Int) (1 : Int)
noncomputable def q_Poly_coefficient_0 (self' : Po) (index' : Int) : Fr :=
  if ((decide ((0 : Int) ≤ index')) && (decide (index' < (self'.coefs.length : Int)))) then q_Poly_coefficient_1 self' index' else q_Poly_coefficient_2
def v_Poly_coefficient_0 (self' : Po) (index' : Int) : Prop :=
  ((((decide ((0 : Int) ≤ index')) && (decide (index' < (self'.coefs.length : Int)))) = true → v_Poly_coefficient_1 self' index') ∧ (((decide ((0 : Int) ≤ index')) && (decide (index' < (self'.coefs.length : Int)))) = false → v_Poly_coefficient_2))
noncomputable def q_Poly_coefficient (self' : Po) (index' : Int) : Fr :=
  q_Poly_coefficient_0 self' index'
def v_Poly_coefficient (self' : Po) (index' : Int) : Prop :=
  v_Poly_coefficient_0 self' index'
noncomputable def q_Poly_eq_0 (self' : Po) (other' : Po) : Bool :=
  (true && ((decide (self'.coefs = other'.coefs)) && (decide (self'.den = other'.den))))
noncomputable def q_Poly_eq (self' : Po) (other' : Po) : Bool :=
  q_Poly_eq_0 self' other'
noncomputable def q_from_fractions_2 (fractions' : List Fr) (den' : Int) (fraction' : Fr) : Int :=
  (Int.lcm den' fraction'.den : Int)
def v_from_fractions_2 (fractions' : List Fr) (den' : Int) (fraction' : Fr) : Prop :=
  lcmOk den' fraction'.den = true
noncomputable def q_from_fractions_3 (fractions' : List Fr) (den' : Int) : Int :=
  fractions'.foldl (fun (s1 : Int) (x2 : Fr) => q_from_fractions_2 fractions' s1 x2) den'
noncomputable def q_from_fractions_4 (fractions' : List Fr) (den' : Int) : Po :=
  q_Poly_init (fractions'.map fun (x4 : Fr) => (x4.num * (Int.fdiv den' x4.den))) den'
def v_from_fractions_4 (fractions' : List Fr) (den' : Int) : Prop :=
  ((∀ x4, x4 ∈ fractions' → (x4.den ≠ 0 ∧ mulOk x4.num (Int.fdiv den' x4.den) = true)) ∧ fractions'.length ≤ LINE ∧ v_Poly_init (fractions'.map fun (x4 : Fr) => (x4.num * (Int.fdiv den' x4.den))) den')
noncomputable def q_from_fractions_1 (fractions' : List Fr) (den' : Int) : Po :=
  q_from_fractions_4 fractions' (q_from_fractions_3 fractions' den')
def v_from_fractions_1 (fractions' : List Fr) (den' : Int) : Prop :=
  (forV (fun (s1 : Int) (x2 : Fr) => v_from_fractions_2 fractions' s1 x2) (fun (s1 : Int) (x2 : Fr) => q_from_fractions_2 fractions' s1 x2) fractions' den' ∧ v_from_fractions_4 fractions' (q_from_fractions_3 fractions' den'))
noncomputable def q_from_fractions_0 (fractions' : List Fr) : Po :=
  q_from_fractions_1 fractions' (1 : Int)
def v_from_fractions_0 (fractions' : List Fr) : Prop :=
  v_from_fractions_1 fractions' (1 : Int)
noncomputable def q_from_fractions (fractions' : List Fr) : Po :=
  q_from_fractions_0 fractions'
def v_from_fractions (fractions' : List Fr) : Prop :=
  v_from_fractions_0 fractions'
noncomputable def q_Poly_constant_0 (x' : Fr) : Po :=
  q_Poly_init [x'.num] x'.den
def v_Poly_constant_0 (x' : Fr) : Prop :=
  v_Poly_init [x'.num] x'.den
noncomputable def q_Poly_constant (x' : Fr) : Po :=
  q_Poly_constant_0 x'
def v_Poly_constant (x' : Fr) : Prop :=
  v_Poly_constant_0 x'
noncomputable def q_Poly_line_0 (slope' : Int) (offset' : Int) : Po :=
  q_Poly_init ([offset', slope']) (1 : Int)
def v_Poly_line_0 (slope' : Int) (offset' : Int) : Prop :=
  v_Poly_init ([offset', slope']) (1 : Int)
noncomputable def q_Poly_line (slope' : Int) (offset' : Int) : Po :=
  q_Poly_line_0 slope' offset'
def v_Poly_line (slope' : Int) (offset' : Int) : Prop :=
  v_Poly_line_0 slope' offset'
noncomputable def q_law_nonzero_2 (numbers_here' : List Int) (start' : Int) (coefs_here' : List Int) : (List Int) :=
  (coefs_here' ++ [((Int.fmod (gt numbers_here' start') (5 : Int)) + (1 : Int))])
def v_law_nonzero_2 (numbers_here' : List Int) (start' : Int) (coefs_here' : List Int) : Prop :=
  (inR numbers_here' start' ∧ coefs_here'.length < LINE)
noncomputable def q_law_nonzero_3 (numbers_here' : List Int) (start' : Int) (coefs_here' : List Int) : (List Int) :=
  if (decide ((coefs_here'.length : Int) = (0 : Int))) then q_law_nonzero_2 numbers_here' start' coefs_here' else coefs_here'
noncomputable def q_law_nonzero_4 (coefs_here' : List Int) : List Int :=
  coefs_here'
noncomputable def q_law_nonzero_1 (numbers_here' : List Int) (start' : Int) (coefs_here' : List Int) : List Int :=
  q_law_nonzero_4 (q_law_nonzero_3 numbers_here' start' coefs_here')
def v_law_nonzero_1 (numbers_here' : List Int) (start' : Int) (coefs_here' : List Int) : Prop :=
  ((decide ((coefs_here'.length : Int) = (0 : Int))) = true → v_law_nonzero_2 numbers_here' start' coefs_here')
noncomputable def q_law_nonzero_0 (numbers_here' : List Int) (start' : Int) (size' : Int) : List Int :=
  q_law_nonzero_1 numbers_here' start' (q_law_trimmed (q_law_coefs numbers_here' start' size'))
def v_law_nonzero_0 (numbers_here' : List Int) (start' : Int) (size' : Int) : Prop :=
  (v_law_coefs numbers_here' start' size' ∧ v_law_trimmed (q_law_coefs numbers_here' start' size') ∧ v_law_nonzero_1 numbers_here' start' (q_law_trimmed (q_law_coefs numbers_here' start' size')))
noncomputable def q_law_nonzero (numbers_here' : List Int) (start' : Int) (size' : Int) : List Int :=
  q_law_nonzero_0 numbers_here' start' size'
def v_law_nonzero (numbers_here' : List Int) (start' : Int) (size' : Int) : Prop :=
  v_law_nonzero_0 numbers_here' start' size'
noncomputable def q_Quotient_eq_0 (self' : Qt) (other' : Qt) : Bool :=
  (true && ((q_Poly_eq self'.num other'.num) && (q_Poly_eq self'.den other'.den)))
noncomputable def q_Quotient_eq (self' : Qt) (other' : Qt) : Bool :=
  q_Quotient_eq_0 self' other'
noncomputable def q_Quotient_is_zero_0 (self' : Qt) : Bool :=
  q_Poly_is_zero self'.num
noncomputable def q_Quotient_is_zero (self' : Qt) : Bool :=
  q_Quotient_is_zero_0 self'
noncomputable def q_Quotient_whole_0 (p' : Po) : Qt :=
  q_Quotient_init p' (q_Poly_init ([(1 : Int)]) (1 : Int))
def v_Quotient_whole_0 (p' : Po) : Prop :=
  (v_Poly_init ([(1 : Int)]) (1 : Int) ∧ v_Quotient_init p' (q_Poly_init ([(1 : Int)]) (1 : Int)))
noncomputable def q_Quotient_whole (p' : Po) : Qt :=
  q_Quotient_whole_0 p'
def v_Quotient_whole (p' : Po) : Prop :=
  v_Quotient_whole_0 p'
noncomputable def q_may_have_root_3 (low' : Int) (high' : Int) (numbers' : List Int) (change' : Int) (number' : Int) : Int :=
  ((change' + (number'.natAbs : Int)) * (high' - low'))
def v_may_have_root_3 (low' : Int) (high' : Int) (numbers' : List Int) (change' : Int) (number' : Int) : Prop :=
  mulOk (change' + (number'.natAbs : Int)) (high' - low') = true
noncomputable def q_may_have_root_4 (low' : Int) (high' : Int) (numbers' : List Int) (change' : Int) : Int :=
  ((cutT numbers' (some (1 : Int)) none).reverse).foldl (fun (s1 : Int) (x2 : Int) => q_may_have_root_3 low' high' numbers' s1 x2) change'
noncomputable def q_may_have_root_5 (numbers' : List Int) (change' : Int) : Bool :=
  (decide (((gt numbers' (0 : Int)).natAbs : Int) ≤ change'))
def v_may_have_root_5 (numbers' : List Int) (change' : Int) : Prop :=
  inR numbers' (0 : Int)
noncomputable def q_may_have_root_2 (low' : Int) (high' : Int) (numbers' : List Int) (change' : Int) : Bool :=
  q_may_have_root_5 numbers' (q_may_have_root_4 low' high' numbers' change')
def v_may_have_root_2 (low' : Int) (high' : Int) (numbers' : List Int) (change' : Int) : Prop :=
  (part numbers' (some (1 : Int)) none ∧ forV (fun (s1 : Int) (x2 : Int) => v_may_have_root_3 low' high' numbers' s1 x2) (fun (s1 : Int) (x2 : Int) => q_may_have_root_3 low' high' numbers' s1 x2) ((cutT numbers' (some (1 : Int)) none).reverse) change' ∧ v_may_have_root_5 numbers' (q_may_have_root_4 low' high' numbers' change'))
noncomputable def q_may_have_root_1 (low' : Int) (high' : Int) (numbers' : List Int) : Bool :=
  q_may_have_root_2 low' high' numbers' (0 : Int)
def v_may_have_root_1 (low' : Int) (high' : Int) (numbers' : List Int) : Prop :=
  v_may_have_root_2 low' high' numbers' (0 : Int)
noncomputable def q_may_have_root_0 (p' : Po) (low' : Int) (high' : Int) : Bool :=
  q_may_have_root_1 low' high' ((q_Poly_shifted p' low').coefs)
def v_may_have_root_0 (p' : Po) (low' : Int) (high' : Int) : Prop :=
  (v_Poly_shifted p' low' ∧ v_may_have_root_1 low' high' ((q_Poly_shifted p' low').coefs))
noncomputable def q_may_have_root (p' : Po) (low' : Int) (high' : Int) : Bool :=
  q_may_have_root_0 p' low' high'
def v_may_have_root (p' : Po) (low' : Int) (high' : Int) : Prop :=
  v_may_have_root_0 p' low' high'
noncomputable def q_roots_between_4 (p' : Po) (low' : Int) (high' : Int) (found' : List Int) (pending' : List (Int × Int)) : (List (Int × Int)) :=
  (pending' ++ [(low', high')])
def v_roots_between_4 (p' : Po) (low' : Int) (high' : Int) (found' : List Int) (pending' : List (Int × Int)) : Prop :=
  pending'.length < LINE
noncomputable def q_roots_between_5 (p' : Po) (low' : Int) (high' : Int) (found' : List Int) (pending' : List (Int × Int)) : (List (Int × Int)) :=
  if (decide (low' ≤ high')) then q_roots_between_4 p' low' high' found' pending' else pending'
noncomputable def q_roots_between_10 (p' : Po) (found' : List Int) (pending' : List (Int × Int)) (left' : Int) : (List Int) × (List (Int × Int)) :=
  ((found' ++ [left']), pending')
def v_roots_between_10 (p' : Po) (found' : List Int) (pending' : List (Int × Int)) (left' : Int) : Prop :=
  found'.length < LINE
noncomputable def q_roots_between_13 (p' : Po) (found' : List Int) (pending' : List (Int × Int)) (left' : Int) (middle' : Int) : (List Int) × (List (Int × Int)) :=
  (found', (pending' ++ [(left', middle')]))
def v_roots_between_13 (p' : Po) (found' : List Int) (pending' : List (Int × Int)) (left' : Int) (middle' : Int) : Prop :=
  pending'.length < LINE
noncomputable def q_roots_between_12 (p' : Po) (found' : List Int) (pending' : List (Int × Int)) (left' : Int) (right' : Int) (middle' : Int) : (List Int) × (List (Int × Int)) :=
  q_roots_between_13 p' found' (pending' ++ [((middle' + (1 : Int)), right')]) left' middle'
def v_roots_between_12 (p' : Po) (found' : List Int) (pending' : List (Int × Int)) (left' : Int) (right' : Int) (middle' : Int) : Prop :=
  (pending'.length < LINE ∧ v_roots_between_13 p' found' (pending' ++ [((middle' + (1 : Int)), right')]) left' middle')
noncomputable def q_roots_between_11 (p' : Po) (found' : List Int) (pending' : List (Int × Int)) (left' : Int) (right' : Int) : (List Int) × (List (Int × Int)) :=
  q_roots_between_12 p' found' pending' left' right' (Int.fdiv (left' + right') (2 : Int))
def v_roots_between_11 (p' : Po) (found' : List Int) (pending' : List (Int × Int)) (left' : Int) (right' : Int) : Prop :=
  v_roots_between_12 p' found' pending' left' right' (Int.fdiv (left' + right') (2 : Int))
noncomputable def q_roots_between_9 (p' : Po) (found' : List Int) (pending' : List (Int × Int)) (left' : Int) (right' : Int) : (List Int) × (List (Int × Int)) :=
  if (decide (left' = right')) then q_roots_between_10 p' found' pending' left' else q_roots_between_11 p' found' pending' left' right'
def v_roots_between_9 (p' : Po) (found' : List Int) (pending' : List (Int × Int)) (left' : Int) (right' : Int) : Prop :=
  (((decide (left' = right')) = true → v_roots_between_10 p' found' pending' left') ∧ ((decide (left' = right')) = false → v_roots_between_11 p' found' pending' left' right'))
noncomputable def q_roots_between_8 (p' : Po) (found' : List Int) (pending' : List (Int × Int)) (left' : Int) (right' : Int) : (List Int) × (List (Int × Int)) :=
  if q_may_have_root p' left' right' then q_roots_between_9 p' found' pending' left' right' else (found', pending')
def v_roots_between_8 (p' : Po) (found' : List Int) (pending' : List (Int × Int)) (left' : Int) (right' : Int) : Prop :=
  (v_may_have_root p' left' right' ∧ ((q_may_have_root p' left' right') = true → v_roots_between_9 p' found' pending' left' right'))
noncomputable def q_roots_between_7 (p' : Po) (found' : List Int) (pending' : List (Int × Int)) : (List Int) × (List (Int × Int)) :=
  q_roots_between_8 p' found' pending'.dropLast ((lastT pending').1) ((lastT pending').2)
def v_roots_between_7 (p' : Po) (found' : List Int) (pending' : List (Int × Int)) : Prop :=
  (pending' ≠ [] ∧ v_roots_between_8 p' found' pending'.dropLast ((lastT pending').1) ((lastT pending').2))
noncomputable def q_roots_between_14 (p' : Po) (found' : List Int) (pending' : List (Int × Int)) : (List Int) × (List (Int × Int)) :=
  wh (fun (s5 : (List Int) × (List (Int × Int))) => (decide ((s5.2.length : Int) > (0 : Int)))) (fun (s5 : (List Int) × (List (Int × Int))) => q_roots_between_7 p' s5.1 s5.2) (found', pending')
noncomputable def q_roots_between_15 (found' : List Int) : List Int :=
  found'
noncomputable def q_roots_between_6 (p' : Po) (found' : List Int) (pending' : List (Int × Int)) : List Int :=
  q_roots_between_15 ((q_roots_between_14 p' found' pending').1)
def v_roots_between_6 (p' : Po) (found' : List Int) (pending' : List (Int × Int)) : Prop :=
  whV (fun (s5 : (List Int) × (List (Int × Int))) => (decide ((s5.2.length : Int) > (0 : Int)))) (fun (s5 : (List Int) × (List (Int × Int))) => True) (fun (s5 : (List Int) × (List (Int × Int))) => q_roots_between_7 p' s5.1 s5.2) (fun (s5 : (List Int) × (List (Int × Int))) => v_roots_between_7 p' s5.1 s5.2) (found', pending')
noncomputable def q_roots_between_3 (p' : Po) (low' : Int) (high' : Int) (found' : List Int) (pending' : List (Int × Int)) : List Int :=
  q_roots_between_6 p' found' (q_roots_between_5 p' low' high' found' pending')
def v_roots_between_3 (p' : Po) (low' : Int) (high' : Int) (found' : List Int) (pending' : List (Int × Int)) : Prop :=
  (((decide (low' ≤ high')) = true → v_roots_between_4 p' low' high' found' pending') ∧ v_roots_between_6 p' found' (q_roots_between_5 p' low' high' found' pending'))
noncomputable def q_roots_between_2 (p' : Po) (low' : Int) (high' : Int) (found' : List Int) : List Int :=
  q_roots_between_3 p' low' high' found' ([] : List (Int × Int))
def v_roots_between_2 (p' : Po) (low' : Int) (high' : Int) (found' : List Int) : Prop :=
  v_roots_between_3 p' low' high' found' ([] : List (Int × Int))
noncomputable def q_roots_between_1 (p' : Po) (low' : Int) (high' : Int) : List Int :=
  q_roots_between_2 p' low' high' ([] : List Int)
def v_roots_between_1 (p' : Po) (low' : Int) (high' : Int) : Prop :=
  v_roots_between_2 p' low' high' ([] : List Int)
noncomputable def q_roots_between_0 (p' : Po) (low' : Int) (high' : Int) : List Int :=
  q_roots_between_1 p' low' high'
def v_roots_between_0 (p' : Po) (low' : Int) (high' : Int) : Prop :=
  ((q_Poly_is_zero p') = false ∧ v_roots_between_1 p' low' high')
noncomputable def q_roots_between (p' : Po) (low' : Int) (high' : Int) : List Int :=
  q_roots_between_0 p' low' high'
def v_roots_between (p' : Po) (low' : Int) (high' : Int) : Prop :=
  v_roots_between_0 p' low' high'
noncomputable def q_law_sorted_roots_3 (low' : Int) (high' : Int) (found' : List Int) (root' : Int) : (List Int) :=
  (found' ++ [root'])
def v_law_sorted_roots_3 (low' : Int) (high' : Int) (found' : List Int) (root' : Int) : Prop :=
  found'.length < LINE
noncomputable def q_law_sorted_roots_2 (low' : Int) (high' : Int) (found' : List Int) (root' : Int) : (List Int) :=
  if (((decide (low' ≤ root')) && (decide (root' ≤ high'))) && (!decide (root' ∈ found'))) then q_law_sorted_roots_3 low' high' found' root' else found'
def v_law_sorted_roots_2 (low' : Int) (high' : Int) (found' : List Int) (root' : Int) : Prop :=
  ((((decide (low' ≤ root')) && (decide (root' ≤ high'))) && (!decide (root' ∈ found'))) = true → v_law_sorted_roots_3 low' high' found' root')
noncomputable def q_law_sorted_roots_4 (roots' : List Int) (low' : Int) (high' : Int) (found' : List Int) : (List Int) :=
  (sortI roots').foldl (fun (s4 : (List Int)) (x5 : Int) => q_law_sorted_roots_2 low' high' s4 x5) found'
noncomputable def q_law_sorted_roots_5 (found' : List Int) : List Int :=
  found'
noncomputable def q_law_sorted_roots_1 (roots' : List Int) (low' : Int) (high' : Int) (found' : List Int) : List Int :=
  q_law_sorted_roots_5 (q_law_sorted_roots_4 roots' low' high' found')
def v_law_sorted_roots_1 (roots' : List Int) (low' : Int) (high' : Int) (found' : List Int) : Prop :=
  (roots'.length < 64 ∧ forV (fun (s4 : (List Int)) (x5 : Int) => v_law_sorted_roots_2 low' high' s4 x5) (fun (s4 : (List Int)) (x5 : Int) => q_law_sorted_roots_2 low' high' s4 x5) (sortI roots') found')
noncomputable def q_law_sorted_roots_0 (roots' : List Int) (low' : Int) (high' : Int) : List Int :=
  q_law_sorted_roots_1 roots' low' high' ([] : List Int)
def v_law_sorted_roots_0 (roots' : List Int) (low' : Int) (high' : Int) : Prop :=
  v_law_sorted_roots_1 roots' low' high' ([] : List Int)
noncomputable def q_law_sorted_roots (roots' : List Int) (low' : Int) (high' : Int) : List Int :=
  q_law_sorted_roots_0 roots' low' high'
def v_law_sorted_roots (roots' : List Int) (low' : Int) (high' : Int) : Prop :=
  v_law_sorted_roots_0 roots' low' high'
noncomputable def q_roots_from_1 (p' : Po) (start' : Int) (high' : Int) : List Int :=
  q_roots_between p' start' high'
def v_roots_from_1 (p' : Po) (start' : Int) (high' : Int) : Prop :=
  v_roots_between p' start' high'
noncomputable def q_roots_from_0 (p' : Po) (start' : Int) : List Int :=
  q_roots_from_1 p' start' ((q_settled_from p' start') - (1 : Int))
def v_roots_from_0 (p' : Po) (start' : Int) : Prop :=
  (v_settled_from p' start' ∧ v_roots_from_1 p' start' ((q_settled_from p' start') - (1 : Int)))
noncomputable def q_roots_from (p' : Po) (start' : Int) : List Int :=
  q_roots_from_0 p' start'
def v_roots_from (p' : Po) (start' : Int) : Prop :=
  v_roots_from_0 p' start'
noncomputable def q_free_from_2 (start' : Int) : Int :=
  start'
noncomputable def q_free_from_3 (roots' : List Int) : Int :=
  ((gt roots' (-(1 : Int))) + (1 : Int))
def v_free_from_3 (roots' : List Int) : Prop :=
  inR roots' (-(1 : Int))
noncomputable def q_free_from_1 (start' : Int) (roots' : List Int) : Int :=
  if (decide ((roots'.length : Int) = (0 : Int))) then q_free_from_2 start' else q_free_from_3 roots'
def v_free_from_1 (start' : Int) (roots' : List Int) : Prop :=
  ((decide ((roots'.length : Int) = (0 : Int))) = false → v_free_from_3 roots')
noncomputable def q_free_from_0 (p' : Po) (start' : Int) : Int :=
  q_free_from_1 start' (q_roots_from p' start')
def v_free_from_0 (p' : Po) (start' : Int) : Prop :=
  (v_roots_from p' start' ∧ v_free_from_1 start' (q_roots_from p' start'))
noncomputable def q_free_from (p' : Po) (start' : Int) : Int :=
  q_free_from_0 p' start'
def v_free_from (p' : Po) (start' : Int) : Prop :=
  v_free_from_0 p' start'
end Pd

set_option maxHeartbeats 2000000
/-! MxA: whole numbers, fractions, coefficient lists: mathematics without a program. -/
namespace Pd
open PySem PySem.Spec L2
def frS (n d : Int) : Int := if d < 0 then -(Int.gcd n d : Int) else (Int.gcd n d : Int)
def frP (n d : Int) : Int := n.fdiv (frS n d)
def frQ (n d : Int) : Int := d.fdiv (frS n d)
theorem gcd_pos' {n d : Int} (hd : d ≠ 0) : 0 < (Int.gcd n d : Int) := by
  have : 0 < Int.gcd n d := Int.gcd_pos_of_ne_zero_right n hd
  omega
theorem frS_ne {n d : Int} (hd : d ≠ 0) : frS n d ≠ 0 := by
  have := gcd_pos' (n := n) hd
  unfold frS
  split <;> omega
theorem frS_dvd_n (n d : Int) : frS n d ∣ n := by
  unfold frS
  split
  · exact Int.neg_dvd.mpr (Int.gcd_dvd_left ..)
  · exact Int.gcd_dvd_left ..
theorem frS_dvd_d (n d : Int) : frS n d ∣ d := by
  unfold frS
  split
  · exact Int.neg_dvd.mpr (Int.gcd_dvd_right ..)
  · exact Int.gcd_dvd_right ..
theorem frP_mul {n d : Int} (hd : d ≠ 0) : frP n d * frS n d = n := by
  unfold frP
  obtain ⟨k, hk⟩ := frS_dvd_n n d
  have hs := frS_ne (n := n) hd
  generalize frS n d = s at *
  have : n.fdiv s = k := by rw [hk, Int.mul_comm, Int.mul_fdiv_cancel _ hs]
  rw [this, Int.mul_comm, ← hk]
theorem frQ_mul {n d : Int} (hd : d ≠ 0) : frQ n d * frS n d = d := by
  unfold frQ
  obtain ⟨k, hk⟩ := frS_dvd_d n d
  have hs := frS_ne (n := n) hd
  generalize frS n d = s at *
  have : d.fdiv s = k := by rw [hk, Int.mul_comm, Int.mul_fdiv_cancel _ hs]
  rw [this, Int.mul_comm, ← hk]
theorem frQ_pos {n d : Int} (hd : d ≠ 0) : 0 < frQ n d := by
  have h := frQ_mul (n := n) hd
  have g := gcd_pos' (n := n) hd
  rcases Int.lt_or_gt_of_ne hd with h0 | h0
  · have hs : frS n d < 0 := by unfold frS; rw [if_pos h0]; omega
    rcases Int.lt_trichotomy (frQ n d) 0 with q | q | q
    · have := Int.mul_pos_of_neg_of_neg q hs
      omega
    · rw [q, Int.zero_mul] at h; omega
    · exact q
  · have hs : 0 < frS n d := by unfold frS; rw [if_neg (by omega)]; omega
    rcases Int.lt_trichotomy (frQ n d) 0 with q | q | q
    · have := Int.mul_neg_of_neg_of_pos q hs
      omega
    · rw [q, Int.zero_mul] at h; omega
    · exact q
theorem fr_cross {n d : Int} (hd : d ≠ 0) : frP n d * d = n * frQ n d := by
  have h1 := frP_mul (n := n) hd
  have h2 := frQ_mul (n := n) hd
  calc frP n d * d = frP n d * (frQ n d * frS n d) := by rw [h2]
    _ = (frP n d * frS n d) * frQ n d := by rw [Int.mul_comm (frQ n d), ← Int.mul_assoc]
    _ = n * frQ n d := by rw [h1]
theorem fr_gcd {n d : Int} (hd : d ≠ 0) : Int.gcd (frP n d) (frQ n d) = 1 := by
  have h1 := frP_mul (n := n) hd
  have h2 := frQ_mul (n := n) hd
  have h3 : Int.gcd (frP n d * frS n d) (frQ n d * frS n d) = Int.gcd (frP n d) (frQ n d) * (frS n d).natAbs := Int.gcd_mul_right ..
  rw [h1, h2] at h3
  have h4 : (frS n d).natAbs = Int.gcd n d := by unfold frS; split <;> simp
  rw [h4] at h3
  have hp : 0 < Int.gcd n d := Int.gcd_pos_of_ne_zero_right n hd
  have := Nat.eq_of_mul_eq_mul_right hp (show Int.gcd (frP n d) (frQ n d) * Int.gcd n d = 1 * Int.gcd n d by omega)
  exact this
theorem natAbs_le_of_mul {a b c : Int} (h : a * b = c) (hb : b ≠ 0) : a.natAbs ≤ c.natAbs := by
  rw [← h, Int.natAbs_mul]
  exact Nat.le_mul_of_pos_right _ (Int.natAbs_pos.mpr hb)
theorem frP_le {n d : Int} (hd : d ≠ 0) : (frP n d).natAbs ≤ n.natAbs := natAbs_le_of_mul (frP_mul hd) (frS_ne hd)
theorem frQ_le {n d : Int} (hd : d ≠ 0) : (frQ n d).natAbs ≤ d.natAbs := natAbs_le_of_mul (frQ_mul hd) (frS_ne hd)
theorem frS_le {n d : Int} (hd : d ≠ 0) : (frS n d).natAbs ≤ d.natAbs := by
  have h := frQ_mul (n := n) hd
  rw [Int.mul_comm] at h
  exact natAbs_le_of_mul h (by have := frQ_pos (n := n) hd; omega)
theorem abs_eq (i : Int) : (if i < 0 then -i else i) = (i.natAbs : Int) := by split <;> omega
theorem coprime_dvd {p q r : Int} (hg : Int.gcd p q = 1) (h : q ∣ p * r) : q ∣ r := by
  have h1 : q.natAbs ∣ p.natAbs * r.natAbs := by
    rw [← Int.natAbs_mul]
    exact Int.natAbs_dvd_natAbs.mpr h
  have h2 : Nat.Coprime q.natAbs p.natAbs := by
    have : Nat.gcd p.natAbs q.natAbs = 1 := hg
    rw [Nat.gcd_comm] at this
    exact this
  exact Int.natAbs_dvd_natAbs.mp (Nat.Coprime.dvd_of_dvd_mul_left h2 h1)
theorem fr_canon {N D N' D' : Int} (hD : D ≠ 0) (hD' : D' ≠ 0) (h : N * D' = N' * D) : frP N D = frP N' D' ∧ frQ N D = frQ N' D' := by
  have a1 := fr_cross (n := N) hD
  have a2 := fr_cross (n := N') hD'
  have b1 := frQ_pos (n := N) hD
  have b2 := frQ_pos (n := N') hD'
  have c1 := fr_gcd (n := N) hD
  have c2 := fr_gcd (n := N') hD'
  generalize frP N D = p at *
  generalize frQ N D = q at *
  generalize frP N' D' = p' at *
  generalize frQ N' D' = q' at *
  have k : p * q' = p' * q := by
    refine Int.eq_of_mul_eq_mul_left (Int.mul_ne_zero hD hD') ?_
    grind
  have d1 : q ∣ q' := coprime_dvd c1 ⟨p', by rw [k, Int.mul_comm]⟩
  have d2 : q' ∣ q := coprime_dvd c2 ⟨p, by rw [← k, Int.mul_comm]⟩
  have e : q = q' := Int.le_antisymm (Int.le_of_dvd b2 d1) (Int.le_of_dvd b1 d2)
  subst e
  exact ⟨Int.eq_of_mul_eq_mul_right (by omega) k, rfl⟩
theorem Sm.up {x : Int} {a b : Nat} (h : Sm x a) (l : a ≤ b) : Sm x b := ⟨Nat.lt_of_lt_of_le h.lt (Nat.pow_le_pow_right (by decide) l), Nat.lt_of_lt_of_le h.pos l⟩
abbrev iL (xs : List Int) : List Dt := xs.map Dt.int
def co (xs : List Int) (k : Nat) : Int := xs.getD k 0
theorem co_nil (k : Nat) : co [] k = 0 := by simp [co]
theorem co_zero (a : Int) (xs : List Int) : co (a :: xs) 0 = a := rfl
theorem co_succ (a : Int) (xs : List Int) (k : Nat) : co (a :: xs) (k + 1) = co xs k := rfl
theorem co_lt {xs : List Int} {k : Nat} (h : k < xs.length) : xs[k]? = some (co xs k) := by
  unfold co
  rw [List.getD_eq_getElem?_getD, List.getElem?_eq_getElem h]
  rfl
theorem co_ge {xs : List Int} {k : Nat} (h : xs.length ≤ k) : co xs k = 0 := by
  unfold co
  rw [List.getD_eq_getElem?_getD, List.getElem?_eq_none h]
  rfl
theorem co_map (f : Int → Int) (hf : f 0 = 0) (xs : List Int) (k : Nat) : co (xs.map f) k = f (co xs k) := by
  by_cases h : k < xs.length
  · have h1 := co_lt (xs := xs.map f) (k := k) (by simpa using h)
    rw [List.getElem?_map, co_lt h] at h1
    exact (Option.some.inj h1).symm
  · rw [co_ge (by simpa using h), co_ge (by omega), hf]
theorem co_take (xs : List Int) (n k : Nat) : co (xs.take n) k = if k < n then co xs k else 0 := by
  unfold co
  rw [List.getD_eq_getElem?_getD, List.getD_eq_getElem?_getD, List.getElem?_take]
  split <;> rfl
theorem co_ext {xs ys : List Int} (hl : xs.length = ys.length) (h : ∀ k, co xs k = co ys k) : xs = ys := by
  apply List.ext_getElem? 
  intro k
  by_cases hk : k < xs.length
  · rw [co_lt hk, co_lt (by omega), h k]
  · rw [List.getElem?_eq_none (by omega), List.getElem?_eq_none (by omega)]
theorem atCo {xs : List Int} {k : Nat} (h : k < xs.length) : atI (iL xs) (k : Int) = some (.int (co xs k)) := atI_nat (by omega) (by
  rw [Int.toNat_natCast, List.getElem?_map, co_lt h]
  rfl)
/-! ### zeros at the end -/
def tsz : List Int → Nat
  | [] => 0
  | a :: xs => if tsz xs = 0 then (if a = 0 then 0 else 1) else tsz xs + 1
theorem tsz_le : ∀ xs : List Int, tsz xs ≤ xs.length
  | [] => Nat.le_refl _
  | a :: xs => by
    have := tsz_le xs
    unfold tsz
    rw [List.length_cons]
    split
    · split <;> omega
    · omega
theorem tsz_zero : ∀ (xs : List Int) (k : Nat), tsz xs ≤ k → co xs k = 0
  | [], k, _ => co_nil k
  | a :: xs, k, h => by
    unfold tsz at h
    cases k with
    | zero =>
      split at h
      · split at h
        · assumption
        · omega
      · omega
    | succ k =>
      rw [co_succ]
      refine tsz_zero xs k ?_
      split at h <;> omega
theorem tsz_last : ∀ (xs : List Int), tsz xs ≠ 0 → co xs (tsz xs - 1) ≠ 0
  | [], h => absurd rfl h
  | a :: xs, h => by
    unfold tsz at h ⊢
    by_cases z : tsz xs = 0
    · rw [if_pos z] at h ⊢
      by_cases ha : a = 0
      · rw [if_pos ha] at h; exact absurd rfl h
      · rw [if_neg ha]
        exact ha
    · rw [if_neg z]
      have := tsz_last xs z
      rw [show tsz xs + 1 - 1 = (tsz xs - 1) + 1 by omega, co_succ]
      exact this
theorem tsz_eq {xs : List Int} {n : Nat} (h1 : ∀ k, n ≤ k → co xs k = 0) (h2 : n ≠ 0 → co xs (n - 1) ≠ 0) : tsz xs = n := by
  rcases Nat.lt_trichotomy (tsz xs) n with h | h | h
  · exact absurd (tsz_zero xs (n - 1) (by omega)) (h2 (by omega))
  · exact h
  · exact absurd (h1 (tsz xs - 1) (by omega)) (tsz_last xs (by omega))
def trim (xs : List Int) : List Int := xs.take (tsz xs)
theorem co_trim (xs : List Int) (k : Nat) : co (trim xs) k = co xs k := by
  unfold trim
  rw [co_take]
  split
  · rfl
  · exact (tsz_zero xs k (by omega)).symm
theorem trim_len (xs : List Int) : (trim xs).length = tsz xs := by
  unfold trim
  rw [List.length_take]
  have := tsz_le xs
  omega
/-! ### contents -/
def cont (xs : List Int) : Nat := xs.foldl (fun g x => Int.gcd g x) 0
theorem foldl_gcd : ∀ (xs : List Int) (g : Nat), xs.foldl (fun g x => Int.gcd g x) g = Nat.gcd g (cont xs)
  | [], g => by simp [cont]
  | x :: xs, g => by
    have h1 := foldl_gcd xs (Int.gcd g x)
    have h2 := foldl_gcd xs (Int.gcd (0 : Nat) x)
    unfold cont
    simp only [List.foldl_cons]
    rw [h1, h2]
    show Nat.gcd (Nat.gcd g x.natAbs) (cont xs) = Nat.gcd g (Nat.gcd (Nat.gcd 0 x.natAbs) (cont xs))
    rw [Nat.gcd_zero_left, Nat.gcd_assoc]
theorem cont_cons (x : Int) (xs : List Int) : cont (x :: xs) = Nat.gcd x.natAbs (cont xs) := by
  have := foldl_gcd xs (Int.gcd (0 : Nat) x)
  unfold cont at *
  rw [List.foldl_cons, this]
  show Nat.gcd (Nat.gcd 0 x.natAbs) _ = _
  rw [Nat.gcd_zero_left]
theorem cont_dvd : ∀ {xs : List Int} {x : Int}, x ∈ xs → (cont xs : Int) ∣ x
  | y :: xs, x, h => by
    rw [cont_cons]
    rcases List.mem_cons.mp h with e | e
    · subst e
      exact Int.ofNat_dvd_left.mpr (Nat.gcd_dvd_left _ _)
    · exact Int.dvd_trans (Int.natCast_dvd_natCast.mpr (Nat.gcd_dvd_right _ _)) (cont_dvd e)
theorem dvd_cont : ∀ {xs : List Int} {m : Nat}, (∀ x ∈ xs, (m : Int) ∣ x) → m ∣ cont xs
  | [], m, _ => Nat.dvd_zero m
  | x :: xs, m, h => by
    rw [cont_cons]
    exact Nat.dvd_gcd (Int.ofNat_dvd_left.mp (h x List.mem_cons_self)) (dvd_cont fun y hy => h y (List.mem_cons_of_mem _ hy))
theorem cont_mul : ∀ (xs : List Int) (s : Int), cont (xs.map (· * s)) = cont xs * s.natAbs
  | [], s => by simp [cont]
  | x :: xs, s => by
    rw [List.map_cons, cont_cons, cont_cons, cont_mul xs s, Int.natAbs_mul, Nat.gcd_mul_right]
theorem dvd_cont_mul {q m : Int} : ∀ {ys : List Int}, (∀ y ∈ ys, q ∣ y * m) → q.natAbs ∣ cont ys * m.natAbs
  | [], _ => by simp [cont]
  | y :: ys, h => by
    rw [cont_cons, ← Nat.gcd_mul_right]
    refine Nat.dvd_gcd ?_ (dvd_cont_mul fun z hz => h z (List.mem_cons_of_mem _ hz))
    rw [← Int.natAbs_mul]
    exact Int.natAbs_dvd_natAbs.mpr (h y List.mem_cons_self)
/-! ### the one form -/
def plS (xs : List Int) (d : Int) : Int := if d < 0 then -(Nat.gcd (cont (trim xs)) d.natAbs : Int) else (Nat.gcd (cont (trim xs)) d.natAbs : Int)
def plC (xs : List Int) (d : Int) : List Int := (trim xs).map fun x => x.fdiv (plS xs d)
def plD (xs : List Int) (d : Int) : Int := d.fdiv (plS xs d)
section
variable {xs : List Int} {d : Int}
theorem plG_pos (hd : d ≠ 0) : 0 < Nat.gcd (cont (trim xs)) d.natAbs := Nat.gcd_pos_of_pos_right _ (Int.natAbs_pos.mpr hd)
theorem plS_ne (hd : d ≠ 0) : plS xs d ≠ 0 := by
  have := plG_pos (xs := xs) hd
  unfold plS
  split <;> omega
theorem plS_abs : (plS xs d).natAbs = Nat.gcd (cont (trim xs)) d.natAbs := by
  unfold plS
  split <;> omega
theorem plS_dvd_d : plS xs d ∣ d := by
  rw [← Int.natAbs_dvd, plS_abs]
  exact Int.ofNat_dvd_left.mpr (Nat.gcd_dvd_right _ _)
theorem plS_dvd {x : Int} (h : x ∈ trim xs) : plS xs d ∣ x := by
  rw [← Int.natAbs_dvd, plS_abs]
  exact Int.dvd_trans (Int.natCast_dvd_natCast.mpr (Nat.gcd_dvd_left _ _)) (cont_dvd h)
theorem fdiv_mul_of_dvd {a s : Int} (hs : s ≠ 0) (h : s ∣ a) : a.fdiv s * s = a := by
  obtain ⟨k, rfl⟩ := h
  rw [Int.mul_comm s k, Int.mul_fdiv_cancel _ hs]
theorem plD_mul (hd : d ≠ 0) : plD xs d * plS xs d = d := fdiv_mul_of_dvd (plS_ne hd) plS_dvd_d
theorem plD_pos (hd : d ≠ 0) : 0 < plD xs d := by
  have h := plD_mul (xs := xs) hd
  have g := plG_pos (xs := xs) hd
  rcases Int.lt_or_gt_of_ne hd with h0 | h0
  · have hs : plS xs d < 0 := by unfold plS; rw [if_pos h0]; omega
    rcases Int.lt_trichotomy (plD xs d) 0 with q | q | q
    · have := Int.mul_pos_of_neg_of_neg q hs
      omega
    · rw [q, Int.zero_mul] at h; omega
    · exact q
  · have hs : 0 < plS xs d := by unfold plS; rw [if_neg (by omega)]; omega
    rcases Int.lt_trichotomy (plD xs d) 0 with q | q | q
    · have := Int.mul_neg_of_neg_of_pos q hs
      omega
    · rw [q, Int.zero_mul] at h; omega
    · exact q
theorem plC_len : (plC xs d).length = tsz xs := by unfold plC; rw [List.length_map, trim_len]
theorem plC_mul (hd : d ≠ 0) (k : Nat) : co (plC xs d) k * plS xs d = co xs k := by
  unfold plC
  rw [co_map (fun x => x.fdiv (plS xs d)) (by simp), ← co_trim xs k]
  by_cases h : k < (trim xs).length
  · exact fdiv_mul_of_dvd (plS_ne hd) (plS_dvd (List.mem_of_getElem? (co_lt h)))
  · rw [co_ge (by omega)]
    simp
theorem pl_cross (hd : d ≠ 0) (k : Nat) : co (plC xs d) k * d = co xs k * plD xs d := by
  have h1 := plC_mul (xs := xs) hd k
  have h2 := plD_mul (xs := xs) hd
  generalize plS xs d = s at *
  generalize plD xs d = q at *
  generalize co (plC xs d) k = y at *
  grind
theorem pl_gcd (hd : d ≠ 0) : Nat.gcd (cont (plC xs d)) (plD xs d).natAbs = 1 := by
  have h1 : (plC xs d).map (· * plS xs d) = trim xs := by
    unfold plC
    rw [List.map_map]
    conv => rhs; rw [← List.map_id (trim xs)]
    refine List.map_congr_left fun x hx => ?_
    exact fdiv_mul_of_dvd (plS_ne hd) (plS_dvd hx)
  have h2 : cont (plC xs d) * (plS xs d).natAbs = cont (trim xs) := by rw [← cont_mul, h1]
  have h3 : (plD xs d).natAbs * (plS xs d).natAbs = d.natAbs := by rw [← Int.natAbs_mul, plD_mul hd]
  have h4 := Nat.gcd_mul_right (cont (plC xs d)) (plS xs d).natAbs (plD xs d).natAbs
  rw [h2, h3, plS_abs] at h4
  have g := plG_pos (xs := xs) hd
  exact Nat.eq_of_mul_eq_mul_right g (by omega)
theorem plC_last (hd : d ≠ 0) (h : plC xs d ≠ []) : co (plC xs d) ((plC xs d).length - 1) ≠ 0 := by
  have hl := plC_len (xs := xs) (d := d)
  have hn : tsz xs ≠ 0 := fun z => h (List.length_eq_zero_iff.mp (by rw [hl, z]))
  have := tsz_last xs hn
  rw [hl]
  intro z
  have m := plC_mul (xs := xs) hd (tsz xs - 1)
  rw [z, Int.zero_mul] at m
  exact this m.symm
end
theorem pl_canon {xs xs' : List Int} {d d' : Int} (hd : d ≠ 0) (hd' : d' ≠ 0) (h : ∀ k, co xs k * d' = co xs' k * d) : plC xs d = plC xs' d' ∧ plD xs d = plD xs' d' := by
  have hz : ∀ k, co xs k = 0 ↔ co xs' k = 0 := fun k => by
    constructor
    · intro z
      have := h k
      rw [z, Int.zero_mul] at this
      exact (Int.mul_eq_zero.mp this.symm).resolve_right hd
    · intro z
      have := h k
      rw [z, Int.zero_mul] at this
      exact (Int.mul_eq_zero.mp this).resolve_right hd'
  have ht : tsz xs = tsz xs' := (tsz_eq (xs := xs') (n := tsz xs) (fun k hk => (hz k).mp (tsz_zero xs k hk)) (fun hn z => tsz_last xs hn ((hz _).mpr z))).symm
  have a1 := fun k => pl_cross (xs := xs) hd k
  have a2 := fun k => pl_cross (xs := xs') hd' k
  have b1 := plD_pos (xs := xs) hd
  have b2 := plD_pos (xs := xs') hd'
  have c1 := pl_gcd (xs := xs) hd
  have c2 := pl_gcd (xs := xs') hd'
  have l1 := plC_len (xs := xs) (d := d)
  have l2 := plC_len (xs := xs') (d := d')
  generalize plC xs d = ys at *
  generalize plC xs' d' = ys' at *
  generalize plD xs d = q at *
  generalize plD xs' d' = q' at *
  have kk : ∀ k, co ys k * q' = co ys' k * q := fun k => by
    refine Int.eq_of_mul_eq_mul_left (Int.mul_ne_zero hd hd') ?_
    have h1 := a1 k
    have h2 := a2 k
    have h3 := h k
    generalize co ys k = y at *
    generalize co ys' k = y' at *
    generalize co xs k = x at *
    generalize co xs' k = x' at *
    grind
  have dv : ∀ {ys ys' : List Int} {q q' : Int}, (∀ k, co ys k * q' = co ys' k * q) → Nat.gcd (cont ys) q.natAbs = 1 → q ∣ q' := fun {ys ys' q q'} hk hg => by
    have h1 : q.natAbs ∣ cont ys * q'.natAbs := dvd_cont_mul fun y hy => by
      obtain ⟨k, hlt, e⟩ := List.mem_iff_getElem.mp hy
      have h2 := co_lt hlt
      rw [List.getElem?_eq_getElem hlt] at h2
      have h3 : y = co ys k := by rw [← e]; exact Option.some.inj h2
      rw [h3, hk k]
      exact Int.dvd_mul_left _ _
    have h2 : Nat.Coprime q.natAbs (cont ys) := by
      rw [Nat.gcd_comm] at hg
      exact hg
    exact Int.natAbs_dvd_natAbs.mp (Nat.Coprime.dvd_of_dvd_mul_left h2 h1)
  have d1 : q ∣ q' := dv kk c1
  have d2 : q' ∣ q := dv (fun k => (kk k).symm) c2
  have e : q = q' := Int.le_antisymm (Int.le_of_dvd b2 d1) (Int.le_of_dvd b1 d2)
  subst e
  exact ⟨co_ext (by omega) fun k => Int.eq_of_mul_eq_mul_right (by omega) (kk k), rfl⟩
/-- the data of a polynomial: any numbers over any denominator -/
abbrev pl (c : Nat) (xs : List Int) (d : Int) : Dt := .ins c [.tup (iL (plC xs d)), .int (plD xs d)]
theorem pl_same {c : Nat} {xs xs' : List Int} {d d' : Int} (hd : d ≠ 0) (hd' : d' ≠ 0) (h : ∀ k, co xs k * d' = co xs' k * d) : pl c xs d = pl c xs' d' := by
  obtain ⟨h1, h2⟩ := pl_canon hd hd' h
  show Dt.ins c [.tup (iL (plC xs d)), .int (plD xs d)] = _
  rw [h1, h2]
theorem co_pad (xs : List Int) (n k : Nat) : co (xs ++ List.replicate n 0) k = co xs k := by
  unfold co
  rw [List.getD_eq_getElem?_getD, List.getD_eq_getElem?_getD]
  by_cases h : k < xs.length
  · rw [List.getElem?_append_left h]
  · rw [List.getElem?_append_right (by omega), List.getElem?_replicate, List.getElem?_eq_none (by omega : xs.length ≤ k)]
    split <;> rfl
theorem foldl_int : ∀ (ys : List Int) (g : Nat), ys.foldl (fun g x => (Int.gcd g x : Int)) (g : Int) = ((ys.foldl (fun (g : Nat) x => Int.gcd g x) g : Nat) : Int)
  | [], g => rfl
  | y :: ys, g => foldl_int ys (Int.gcd g y)
theorem plC_small {xs : List Int} {d : Int} (hd : d ≠ 0) (k : Nat) : (co (plC xs d) k).natAbs ≤ (co xs k).natAbs := natAbs_le_of_mul (plC_mul hd k) (plS_ne hd)
theorem plD_small {xs : List Int} {d : Int} (hd : d ≠ 0) : (plD xs d).natAbs ≤ d.natAbs := natAbs_le_of_mul (plD_mul hd) (plS_ne hd)
theorem co_set {xs : List Int} {m : Nat} {v : Int} (h : m < xs.length) (k : Nat) : co (xs.set m v) k = if k = m then v else co xs k := by
  unfold co
  rw [List.getD_eq_getElem?_getD, List.getD_eq_getElem?_getD]
  by_cases e : k = m
  · subst e
    rw [List.getElem?_set_self h, if_pos rfl]
    rfl
  · rw [List.getElem?_set_ne (fun z => e z.symm), if_neg e]
theorem co_repl (n k : Nat) : co (List.replicate n 0) k = 0 := by
  unfold co
  rw [List.getD_eq_getElem?_getD, List.getElem?_replicate]
  split <;> rfl
def mulc : List Int → List Int → Nat → Int
  | [], _, _ => 0
  | a :: as, b, k => a * co b k + (match k with
    | 0 => 0
    | k + 1 => mulc as b k)
theorem mulc_snoc : ∀ (xs : List Int) (a : Int) (b : List Int) (k : Nat), mulc (xs ++ [a]) b k = mulc xs b k + (if xs.length ≤ k then a * co b (k - xs.length) else 0)
  | [], a, b, k => by
    cases k <;> simp [mulc]
  | x :: xs, a, b, 0 => by simp [mulc]
  | x :: xs, a, b, k + 1 => by
    have := mulc_snoc xs a b k
    show x * co b (k + 1) + mulc (xs ++ [a]) b k = x * co b (k + 1) + mulc xs b k + _
    rw [this, List.length_cons, Int.add_assoc]
    congr 2
    by_cases h : xs.length ≤ k
    · rw [if_pos h, if_pos (by omega), show k + 1 - (xs.length + 1) = k - xs.length by omega]
    · rw [if_neg h, if_neg (by omega)]
def shc (s : Int) : List Int → Nat → Int
  | [], _ => 0
  | a :: xs, k => (match k with
    | 0 => a
    | k + 1 => shc s xs k) + s * shc s xs k
def syn (s : Int) : List Int → List Int
  | [] => []
  | a :: t => (a + s * co (syn s t) 0) :: syn s t
theorem syn_len (s : Int) : ∀ t, (syn s t).length = t.length
  | [] => rfl
  | a :: t => congrArg (· + 1) (syn_len s t)
theorem shc_syn (s : Int) : ∀ (t : List Int), shc s t 0 = co (syn s t) 0 ∧ ∀ k, shc s t (k + 1) = shc s (syn s t).tail k
  | [] => ⟨by simp [shc, syn, co], fun k => by simp [shc, syn]⟩
  | a :: t => by
    obtain ⟨i0, i1⟩ := shc_syn s t
    refine ⟨?_, fun k => ?_⟩
    · show a + s * shc s t 0 = a + s * co (syn s t) 0
      rw [i0]
    · show shc s t k + s * shc s t (k + 1) = shc s (syn s t) k
      rw [i1 k]
      cases t with
      | nil => simp [shc, syn]
      | cons b t =>
        show shc s (b :: t) k + s * shc s (syn s t) k = shc s ((b + s * co (syn s t) 0) :: syn s t) k
        cases k with
        | zero =>
          rw [i0]
          rfl
        | succ k =>
          rw [i1 k]
          rfl
theorem shc_ge (s : Int) : ∀ (xs : List Int) (k : Nat), xs.length ≤ k → shc s xs k = 0
  | [], k, _ => rfl
  | a :: xs, 0, h => by simp at h
  | a :: xs, k + 1, h => by
    have h' : xs.length ≤ k := by simpa using h
    show shc s xs k + s * shc s xs (k + 1) = 0
    rw [shc_ge s xs k h', shc_ge s xs (k + 1) (by omega)]
    simp
theorem shc_lin (s : Int) : ∀ (xs ys : List Int) (p q : Int), (∀ k, co xs k * p = co ys k * q) → ∀ k, shc s xs k * p = shc s ys k * q
  | [], [], p, q, _, k => by simp [shc]
  | [], y :: ys, p, q, h, k => by
    have ih := shc_lin s [] ys p q (fun k => h (k + 1))
    have h0 := h 0
    have z : ∀ k, shc s ys k * q = 0 := fun k => by rw [← ih k]; simp [shc]
    have y0 : y * q = 0 := by rw [← show co (y :: ys) 0 = y from rfl, ← h0]; simp [co]
    show 0 * p = ((match k with | 0 => y | k + 1 => shc s ys k) + s * shc s ys k) * q
    rw [Int.add_mul, Int.mul_assoc, z k]
    cases k with
    | zero => simp [y0]
    | succ k => simp [z k]
  | x :: xs, [], p, q, h, k => by
    have ih := shc_lin s xs [] p q (fun k => h (k + 1))
    have h0 := h 0
    have z : ∀ k, shc s xs k * p = 0 := fun k => by rw [ih k]; simp [shc]
    have x0 : x * p = 0 := by rw [← show co (x :: xs) 0 = x from rfl, h0]; simp [co]
    show ((match k with | 0 => x | k + 1 => shc s xs k) + s * shc s xs k) * p = 0 * q
    rw [Int.add_mul, Int.mul_assoc, z k]
    cases k with
    | zero => simp [x0]
    | succ k => simp [z k]
  | x :: xs, y :: ys, p, q, h, k => by
    have ih := shc_lin s xs ys p q (fun k => h (k + 1))
    have h0 : x * p = y * q := h 0
    show ((match k with | 0 => x | k + 1 => shc s xs k) + s * shc s xs k) * p = ((match k with | 0 => y | k + 1 => shc s ys k) + s * shc s ys k) * q
    rw [Int.add_mul, Int.add_mul, Int.mul_assoc, Int.mul_assoc, ih k]
    cases k with
    | zero => simp [h0]
    | succ k => simp [ih k]
theorem co_app (xs ys : List Int) (k : Nat) : co (xs ++ ys) k = if k < xs.length then co xs k else co ys (k - xs.length) := by
  unfold co
  rw [List.getD_eq_getElem?_getD, List.getD_eq_getElem?_getD, List.getD_eq_getElem?_getD]
  split
  · rw [List.getElem?_append_left (by assumption)]
  · rw [List.getElem?_append_right (by omega)]
theorem co_drop (xs : List Int) (n k : Nat) : co (xs.drop n) k = co xs (n + k) := by
  unfold co
  rw [List.getD_eq_getElem?_getD, List.getD_eq_getElem?_getD, List.getElem?_drop]
theorem drop_cons {xs : List Int} {j : Nat} (h : j < xs.length) : xs.drop j = co xs j :: xs.drop (j + 1) := by
  rw [List.drop_eq_getElem_cons h]
  have := co_lt h
  rw [List.getElem?_eq_getElem h] at this
  rw [Option.some.inj this]
def wj (s : Int) (L : List Int) (j : Nat) : List Int := L.take j ++ syn s (L.drop j)
theorem wj_len (s : Int) (L : List Int) (j : Nat) : (wj s L j).length = L.length := by
  unfold wj
  rw [List.length_append, syn_len, List.length_take, List.length_drop]
  omega
theorem wj_co (s : Int) (L : List Int) (j k : Nat) (hj : j ≤ L.length) : co (wj s L j) k = if k < j then co L k else co (syn s (L.drop j)) (k - j) := by
  unfold wj
  rw [co_app, List.length_take, Nat.min_eq_left hj, co_take]
  split
  · rfl
  · rfl
theorem wj_last (s : Int) {L : List Int} {n : Nat} (h : L.length = n + 1) : wj s L n = L := by
  unfold wj
  rw [drop_cons (by omega), List.drop_of_length_le (by omega)]
  show L.take n ++ [co L n + s * co [] 0] = L
  rw [co_nil, Int.mul_zero, Int.add_zero]
  refine co_ext (by simp; omega) fun k => ?_
  rw [co_app, List.length_take, co_take]
  by_cases h1 : k < n
  · rw [if_pos (by omega), if_pos h1]
  · rw [if_neg (by omega), Nat.min_eq_left (by omega)]
    by_cases h2 : k = n
    · subst h2
      rw [Nat.sub_self]
      rfl
    · rw [co_ge (by simp; omega), co_ge (by omega)]
theorem wj_step (s : Int) {L : List Int} {j : Nat} (h : j < L.length) : (wj s L (j + 1)).set j (co (wj s L (j + 1)) j + s * co (wj s L (j + 1)) (j + 1)) = wj s L j := by
  refine co_ext (by rw [List.length_set, wj_len, wj_len]) fun k => ?_
  have c1 : co (wj s L (j + 1)) j = co L j := by rw [wj_co s L (j + 1) j (by omega), if_pos (by omega)]
  have c2 : co (wj s L (j + 1)) (j + 1) = co (syn s (L.drop (j + 1))) 0 := by rw [wj_co s L (j + 1) (j + 1) (by omega), if_neg (by omega), Nat.sub_self]
  rw [co_set (by rw [wj_len]; exact h), c1, c2, wj_co s L j k (by omega)]
  by_cases e : k = j
  · subst e
    rw [if_pos rfl, if_neg (by omega), Nat.sub_self, drop_cons h]
    rfl
  · rw [if_neg e, wj_co s L (j + 1) k (by omega)]
    by_cases h1 : k < j
    · rw [if_pos (by omega), if_pos h1]
    · rw [if_neg (by omega), if_neg h1, drop_cons h, show k - j = (k - (j + 1)) + 1 by omega]
      rfl
theorem Sm.addUp {x y : Int} {m : Nat} (h : Sm x m) (k : Sm y m) : Sm (x + y) (m + 1) := ⟨by
  have h1 := h.lt
  have h2 := k.lt
  have := Int.natAbs_add_le x y
  rw [Nat.pow_succ]
  generalize 2 ^ m = A at *
  omega, Nat.succ_pos _⟩
theorem Sm.zero {m : Nat} (h : 0 < m) : Sm 0 m := ⟨Nat.pow_pos (by decide), h⟩
theorem syn_sm {s : Int} (hs : Sm s 9) {b : Nat} (hb : 0 < b) : ∀ (t : List Int), (∀ k, Sm (co t k) b) → ∀ k, Sm (co (syn s t) k) (b + 10 * t.length)
  | [], _, k => by
    show Sm (co [] k) _
    rw [co_nil]
    exact Sm.zero (by omega)
  | a :: t, h, k => by
    have ih := syn_sm hs hb t fun k => h (k + 1)
    rw [List.length_cons]
    cases k with
    | zero =>
      show Sm (a + s * co (syn s t) 0) _
      have h0 := ih 0
      have h1 : Sm (s * co (syn s t) 0) (9 + (b + 10 * t.length)) := inferInstance
      have h2 : Sm a (9 + (b + 10 * t.length)) := (h 0).up (by omega)
      exact (h2.addUp h1).up (by omega)
    | succ k => exact (ih k).up (by omega)
def sft (f : Nat → Int) : Nat → Int
  | 0 => 0
  | k + 1 => f k
theorem mulc_two (s : Int) : ∀ (p : List Int) (k : Nat), mulc p [s, 1] k = s * co p k + sft (co p) k
  | [], k => by cases k <;> simp [mulc, co, sft]
  | a :: as, 0 => by
    show a * s + 0 = s * a + 0
    rw [Int.mul_comm]
  | a :: as, 1 => by
    show a * 1 + mulc as [s, 1] 0 = s * co as 0 + a
    rw [mulc_two s as 0]
    show a * 1 + (s * co as 0 + 0) = _
    omega
  | a :: as, k + 2 => by
    show a * co [s, 1] (k + 2) + mulc as [s, 1] (k + 1) = s * co as (k + 1) + co as k
    rw [mulc_two s as (k + 1), co_ge (xs := [s, 1]) (by simp)]
    show a * 0 + (s * co as (k + 1) + co as k) = _
    omega
def Pc (s : Int) : Nat → Nat → Int
  | 0, k => if k = 0 then 1 else 0
  | j + 1, k => s * Pc s j k + sft (Pc s j) k
def Tc (s : Int) : List Int → Nat → Nat → Int
  | [], _, _ => 0
  | a :: xs, j, k => a * Pc s j k + Tc s xs (j + 1) k
theorem Tc_step (s : Int) : ∀ (xs : List Int) (j k : Nat), Tc s xs (j + 1) k = s * Tc s xs j k + sft (Tc s xs j) k
  | [], j, k => by cases k <;> simp [Tc, sft]
  | a :: xs, j, 0 => by
    have ih : Tc s xs (j + 1 + 1) 0 = s * Tc s xs (j + 1) 0 + 0 := Tc_step s xs (j + 1) 0
    show a * (s * Pc s j 0 + 0) + Tc s xs (j + 1 + 1) 0 = s * (a * Pc s j 0 + Tc s xs (j + 1) 0) + 0
    rw [ih]
    generalize Pc s j 0 = p
    generalize Tc s xs (j + 1) 0 = t
    grind
  | a :: xs, j, k + 1 => by
    have ih : Tc s xs (j + 1 + 1) (k + 1) = s * Tc s xs (j + 1) (k + 1) + Tc s xs (j + 1) k := Tc_step s xs (j + 1) (k + 1)
    show a * (s * Pc s j (k + 1) + Pc s j k) + Tc s xs (j + 1 + 1) (k + 1) = s * (a * Pc s j (k + 1) + Tc s xs (j + 1) (k + 1)) + (a * Pc s j k + Tc s xs (j + 1) k)
    rw [ih]
    clear ih
    generalize Pc s j (k + 1) = p
    generalize Pc s j k = q
    generalize Tc s xs (j + 1) (k + 1) = t
    generalize Tc s xs (j + 1) k = u
    grind
theorem Tc_shc (s : Int) : ∀ (xs : List Int) (k : Nat), Tc s xs 0 k = shc s xs k
  | [], k => rfl
  | a :: xs, 0 => by
    have ih := Tc_shc s xs 0
    have st : Tc s xs (0 + 1) 0 = s * Tc s xs 0 0 + 0 := Tc_step s xs 0 0
    show a * 1 + Tc s xs (0 + 1) 0 = a + s * shc s xs 0
    rw [st, ih]
    omega
  | a :: xs, k + 1 => by
    have ih := Tc_shc s xs (k + 1)
    have ih2 := Tc_shc s xs k
    have st : Tc s xs (0 + 1) (k + 1) = s * Tc s xs 0 (k + 1) + Tc s xs 0 k := Tc_step s xs 0 (k + 1)
    show a * 0 + Tc s xs (0 + 1) (k + 1) = shc s xs k + s * shc s xs (k + 1)
    rw [st, ih, ih2]
    omega
theorem Pc_sm {s : Int} (hs : Sm s 9) : ∀ j k, Sm (Pc s j k) (10 * j + 1)
  | 0, k => by
    unfold Pc
    split
    · exact ⟨by decide, by decide⟩
    · exact ⟨by decide, by decide⟩
  | j + 1, k => by
    have ih := Pc_sm hs j
    have i1 := ih k
    have h1 : Sm (s * Pc s j k) (9 + (10 * j + 1)) := inferInstance
    have h2 : Sm (sft (Pc s j) k) (9 + (10 * j + 1)) := by
      cases k with
      | zero => exact Sm.zero (by omega)
      | succ k => exact (ih k).up (by omega)
    exact (h1.addUp h2).up (by omega)
def shF (t : Int) (f : Nat → Int) : Nat → Nat → Int
  | 0, _ => 0
  | n + 1, k => (match k with
    | 0 => f 0
    | k + 1 => shF t (fun i => f (i + 1)) n k) + t * shF t (fun i => f (i + 1)) n k
theorem shc_shF (t : Int) : ∀ (xs : List Int) (k : Nat), shc t xs k = shF t (co xs) xs.length k
  | [], k => rfl
  | a :: xs, k => by
    have ih := shc_shF t xs
    show (match k with | 0 => a | k + 1 => shc t xs k) + t * shc t xs k = (match k with | 0 => co (a :: xs) 0 | k + 1 => shF t (co xs) xs.length k) + t * shF t (co xs) xs.length k
    rw [ih k]
    cases k with
    | zero => rfl
    | succ k =>
      show shc t xs k + _ = shF t (co xs) xs.length k + _
      rw [ih k]
theorem shF_zero (t : Int) : ∀ (n : Nat) (f : Nat → Int) (k : Nat), (∀ i, f i = 0) → shF t f n k = 0
  | 0, f, k, _ => rfl
  | n + 1, f, 0, h => by
    show f 0 + t * shF t (fun i => f (i + 1)) n 0 = 0
    rw [h 0, shF_zero t n _ 0 fun i => h (i + 1), Int.mul_zero, Int.zero_add]
  | n + 1, f, k + 1, h => by
    show shF t (fun i => f (i + 1)) n k + t * shF t (fun i => f (i + 1)) n (k + 1) = 0
    rw [shF_zero t n _ k fun i => h (i + 1), shF_zero t n _ (k + 1) fun i => h (i + 1), Int.mul_zero, Int.zero_add]
theorem shF_lin (t c : Int) : ∀ (n : Nat) (f g h : Nat → Int) (k : Nat), (∀ i, h i = f i + c * g i) → shF t h n k = shF t f n k + c * shF t g n k
  | 0, f, g, h, k, _ => by show (0 : Int) = 0 + c * 0; omega
  | n + 1, f, g, h, 0, e => by
    have i0 := shF_lin t c n (fun i => f (i + 1)) (fun i => g (i + 1)) (fun i => h (i + 1)) 0 fun i => e (i + 1)
    show h 0 + t * shF t (fun i => h (i + 1)) n 0 = (f 0 + t * shF t (fun i => f (i + 1)) n 0) + c * (g 0 + t * shF t (fun i => g (i + 1)) n 0)
    rw [i0, e 0]
    generalize shF t (fun i => f (i + 1)) n 0 = x
    generalize shF t (fun i => g (i + 1)) n 0 = y
    generalize f 0 = u
    generalize g 0 = v
    grind
  | n + 1, f, g, h, k + 1, e => by
    have i0 := shF_lin t c n (fun i => f (i + 1)) (fun i => g (i + 1)) (fun i => h (i + 1)) k fun i => e (i + 1)
    have i1 := shF_lin t c n (fun i => f (i + 1)) (fun i => g (i + 1)) (fun i => h (i + 1)) (k + 1) fun i => e (i + 1)
    show shF t (fun i => h (i + 1)) n k + t * shF t (fun i => h (i + 1)) n (k + 1) = (shF t (fun i => f (i + 1)) n k + t * shF t (fun i => f (i + 1)) n (k + 1)) + c * (shF t (fun i => g (i + 1)) n k + t * shF t (fun i => g (i + 1)) n (k + 1))
    rw [i0, i1]
    generalize shF t (fun i => f (i + 1)) n k = x
    generalize shF t (fun i => g (i + 1)) n k = y
    generalize shF t (fun i => f (i + 1)) n (k + 1) = u
    generalize shF t (fun i => g (i + 1)) n (k + 1) = v
    grind
theorem shF_more (t : Int) : ∀ (n : Nat) (f : Nat → Int) (k : Nat), (∀ i, n ≤ i → f i = 0) → shF t f (n + 1) k = shF t f n k
  | 0, f, k, h => shF_zero t 1 f k fun i => h i (Nat.zero_le _)
  | n + 1, f, 0, h => by
    show f 0 + t * shF t (fun i => f (i + 1)) (n + 1) 0 = f 0 + t * shF t (fun i => f (i + 1)) n 0
    rw [shF_more t n _ 0 fun i hi => h (i + 1) (by omega)]
  | n + 1, f, k + 1, h => by
    show shF t (fun i => f (i + 1)) (n + 1) k + t * shF t (fun i => f (i + 1)) (n + 1) (k + 1) = shF t (fun i => f (i + 1)) n k + t * shF t (fun i => f (i + 1)) n (k + 1)
    rw [shF_more t n _ k fun i hi => h (i + 1) (by omega), shF_more t n _ (k + 1) fun i hi => h (i + 1) (by omega)]
theorem shF_sft (t : Int) (w : Nat → Int) (n k : Nat) : shF t (sft w) (n + 1) k = sft (shF t w n) k + t * shF t w n k := by
  cases k <;> rfl
theorem back (s : Int) : ∀ (xs : List Int) (k : Nat), shF (-s) (shc s xs) xs.length k = co xs k
  | [], k => by rw [co_nil]; rfl
  | a :: xs, k => by
    have ih := back s xs
    have hz : ∀ i, xs.length ≤ i → shc s xs i = 0 := fun i hi => shc_ge s xs i hi
    have l1 := shF_lin (-s) s (xs.length + 1) (fun i => (if i = 0 then a else 0) + 1 * sft (shc s xs) i) (shc s xs) (shc s (a :: xs)) k fun i => by
      cases i with
      | zero => show a + s * shc s xs 0 = a + 1 * 0 + s * shc s xs 0; omega
      | succ i => show shc s xs i + s * shc s xs (i + 1) = 0 + 1 * shc s xs i + s * shc s xs (i + 1); omega
    have l2 := shF_lin (-s) 1 (xs.length + 1) (fun i => if i = 0 then a else 0) (sft (shc s xs)) (fun i => (if i = 0 then a else 0) + 1 * sft (shc s xs) i) k fun i => rfl
    have l3 := shF_sft (-s) (shc s xs) xs.length k
    have l4 := shF_more (-s) xs.length (shc s xs) k hz
    have l5 : shF (-s) (fun i => if i = 0 then a else 0) (xs.length + 1) k = if k = 0 then a else 0 := by
      have z : ∀ k, shF (-s) (fun i => if i + 1 = 0 then a else 0) xs.length k = 0 := fun k => shF_zero _ _ _ _ fun i => if_neg (by omega)
      cases k with
      | zero =>
        show a + -s * shF (-s) (fun i => if i + 1 = 0 then a else 0) xs.length 0 = a
        rw [z, Int.mul_zero, Int.add_zero]
      | succ k =>
        show shF (-s) (fun i => if i + 1 = 0 then a else 0) xs.length k + -s * shF (-s) (fun i => if i + 1 = 0 then a else 0) xs.length (k + 1) = 0
        rw [z, z, Int.mul_zero, Int.add_zero]
    rw [List.length_cons, l1, l2, l3, l4, l5, ih]
    cases k with
    | zero =>
      show a + 1 * (0 + -s * co xs 0) + s * co xs 0 = a
      generalize co xs 0 = x
      grind
    | succ k =>
      show 0 + 1 * (shF (-s) (shc s xs) xs.length k + -s * co xs (k + 1)) + s * co xs (k + 1) = co xs k
      rw [ih]
      generalize co xs (k + 1) = x
      grind
theorem shc_back {s : Int} {xs ys : List Int} (hl : ys.length = xs.length) (h : ∀ k, co ys k = shc s xs k) (k : Nat) : shc (-s) ys k = co xs k := by
  rw [shc_shF, hl, show co ys = shc s xs from funext h, back]
theorem shc_0 : ∀ (xs : List Int) (k : Nat), shc 0 xs k = co xs k
  | [], k => by rw [co_nil]; rfl
  | a :: xs, 0 => by show a + 0 * shc 0 xs 0 = a; omega
  | a :: xs, k + 1 => by
    show shc 0 xs k + 0 * shc 0 xs (k + 1) = co xs k
    rw [shc_0 xs k]
    omega
end Pd

set_option maxHeartbeats 2000000
/-! MxB: loops by invariants; lists; the drawn numbers; divisors; fractions. -/
namespace Pd
open PySem PySem.Spec L2
/-! ### loops -/
section
variable {σ α β τ : Type}
theorem forV_inv {V : σ → α → Prop} {f : σ → α → σ} (I : Nat → σ → Prop) : ∀ {xs : List α} {s : σ} (m : Nat), I m s → (∀ i x s, xs[i]? = some x → I (m + i) s → V s x ∧ I (m + i + 1) (f s x)) → forV V f xs s ∧ I (m + xs.length) (xs.foldl f s)
  | [], s, m, h, _ => ⟨trivial, h⟩
  | x :: xs, s, m, h, st => by
    obtain ⟨v, h1⟩ := st 0 x s rfl h
    obtain ⟨w, h2⟩ := forV_inv I (xs := xs) (s := f s x) (m + 1) h1 fun i y s' hy hs => by
      have := st (i + 1) y s' (by simpa using hy) (by rwa [show m + (i + 1) = m + 1 + i by omega])
      rwa [show m + (i + 1) + 1 = m + 1 + i + 1 by omega] at this
    exact ⟨⟨v, w⟩, by rw [List.length_cons, show m + (xs.length + 1) = m + 1 + xs.length by omega]; exact h2⟩
theorem forV_inv0 {V : σ → α → Prop} {f : σ → α → σ} (I : Nat → σ → Prop) {xs : List α} {s : σ} (h : I 0 s) (st : ∀ i x s, xs[i]? = some x → I i s → V s x ∧ I (i + 1) (f s x)) : forV V f xs s ∧ I xs.length (xs.foldl f s) := by
  have := forV_inv I (xs := xs) (s := s) (V := V) (f := f) 0 h fun i x s hx hs => by
    rw [Nat.zero_add] at hs ⊢; exact st i x s hx hs
  rwa [Nat.zero_add] at this
theorem fold_inv0 {f : σ → α → σ} (I : Nat → σ → Prop) {xs : List α} {s : σ} (h : I 0 s) (st : ∀ i x s, xs[i]? = some x → I i s → I (i + 1) (f s x)) : I xs.length (xs.foldl f s) :=
  (forV_inv0 (V := fun (_ : σ) (_ : α) => True) (f := f) I h fun i x s hx hs => ⟨trivial, st i x s hx hs⟩).2
/-- a loop that is not left -/
theorem forX_inv {V : σ → α → Prop} {f : σ → α → Fl σ σ β} (I : Nat → σ → Prop) : ∀ {xs : List α} {s : σ} (m : Nat), I m s → (∀ i x s, xs[i]? = some x → I (m + i) s → V s x ∧ ∃ s', f s x = .nx s' ∧ I (m + i + 1) s') → forVX V f xs s ∧ ∃ s', (forX f xs s : Fl σ τ β) = .nx s' ∧ I (m + xs.length) s'
  | [], s, m, h, _ => ⟨trivial, s, rfl, h⟩
  | x :: xs, s, m, h, st => by
    obtain ⟨v, s1, e1, h1⟩ := st 0 x s rfl h
    obtain ⟨w, s2, e2, h2⟩ := forX_inv I (xs := xs) (s := s1) (V := V) (f := f) (m + 1) h1 fun i y s' hy hs => by
      have := st (i + 1) y s' (by simpa using hy) (by rwa [show m + (i + 1) = m + 1 + i by omega])
      rwa [show m + (i + 1) + 1 = m + 1 + i + 1 by omega] at this
    refine ⟨⟨v, ?_⟩, s2, ?_, by rw [List.length_cons, show m + (xs.length + 1) = m + 1 + xs.length by omega]; exact h2⟩
    · rw [e1]; exact w
    · show (match f s x with | .nx s' => forX f xs s' | .ct s' => forX f xs s' | .bk s' => .nx s' | .rt r => .rt r) = _
      rw [e1]; exact e2
theorem forX_inv0 {V : σ → α → Prop} {f : σ → α → Fl σ σ β} (I : Nat → σ → Prop) {xs : List α} {s : σ} (h : I 0 s) (st : ∀ i x s, xs[i]? = some x → I i s → V s x ∧ ∃ s', f s x = .nx s' ∧ I (i + 1) s') : forVX V f xs s ∧ ∃ s', (forX f xs s : Fl σ τ β) = .nx s' ∧ I xs.length s' := by
  have := forX_inv I (τ := τ) (xs := xs) (s := s) (V := V) (f := f) 0 h fun i x s hx hs => by
    rw [Nat.zero_add] at hs ⊢; exact st i x s hx hs
  rwa [Nat.zero_add] at this
/-- a loop that only tests -/
theorem forX_all {V : Unit → α → Prop} {f : Unit → α → Fl Unit Unit β} {xs : List α} (st : ∀ (i : Nat) (x : α), xs[i]? = some x → V () x ∧ f () x = .nx ()) : forVX V f xs () ∧ (forX f xs () : Fl Unit τ β) = .nx () := by
  obtain ⟨a, s', b, _⟩ := forX_inv0 (τ := τ) (V := V) (f := f) (fun _ _ => True) (xs := xs) (s := ()) trivial fun i x s hx _ => ⟨(st i x hx).1, (), (st i x hx).2, trivial⟩
  exact ⟨a, b⟩
theorem whN_of {t : σ → Bool} {Vt V : σ → Prop} {f : σ → σ} (I : Nat → σ → Prop) : ∀ (n : Nat) (s : σ), I n s → (∀ n s, I n s → Vt s ∧ (t s = false ∨ (t s = true ∧ V s ∧ ∃ k, k < n ∧ I k (f s)))) → ∃ m k, whN t Vt f V m s ∧ I k (itN f m s) ∧ t (itN f m s) = false := by
  intro n
  induction n using Nat.strongRecOn with
  | ind n ih =>
    intro s h st
    obtain ⟨v, e | ⟨e, w, k, hk, h2⟩⟩ := st n s h
    · exact ⟨0, n, ⟨v, e⟩, h, e⟩
    · obtain ⟨m, k', a, b, c⟩ := ih k hk (f s) h2 st
      exact ⟨m + 1, k', ⟨v, e, w, a⟩, b, c⟩
theorem whV_inv {t : σ → Bool} {Vt V : σ → Prop} {f : σ → σ} (I : Nat → σ → Prop) (n : Nat) {s : σ} (h : I n s) (st : ∀ n s, I n s → Vt s ∧ (t s = false ∨ (t s = true ∧ V s ∧ ∃ k, k < n ∧ I k (f s)))) : whV t Vt f V s ∧ ∃ k, I k (wh t f s) ∧ t (wh t f s) = false := by
  obtain ⟨m, k, a, b, c⟩ := whN_of I n s h st
  refine ⟨⟨m, a⟩, k, ?_⟩
  rw [wh_at (whN_T a)]
  exact ⟨b, c⟩
end
/-! ### lists -/
theorem rngN_length (a : Int) (n : Nat) : (rngN a n).length = n := by
  induction n generalizing a with
  | zero => rfl
  | succ n ih => simp [rngN, ih]
theorem rngN_get {a : Int} {n i : Nat} {x : Int} (h : (rngN a n)[i]? = some x) : i < n ∧ x = a + i := by
  induction n generalizing a i with
  | zero => simp [rngN] at h
  | succ n ih =>
    cases i with
    | zero => simp [rngN] at h; exact ⟨by omega, by rw [← h]; simp⟩
    | succ i =>
      obtain ⟨h1, h2⟩ := ih (a := a + 1) (i := i) (by simpa [rngN] using h)
      exact ⟨by omega, by rw [h2]; push_cast; omega⟩
theorem rngN_mem {a : Int} {n : Nat} {x : Int} (h : x ∈ rngN a n) : a ≤ x ∧ x < a + n := by
  obtain ⟨i, hi⟩ := List.getElem?_of_mem h
  obtain ⟨h1, h2⟩ := rngN_get hi
  omega
theorem rngT_length (a b : Int) : (rngT a b).length = (b - a).toNat := rngN_length _ _
theorem rngT_get {a b : Int} {i : Nat} {x : Int} (h : (rngT a b)[i]? = some x) : (i : Int) < b - a ∧ x = a + i := by
  obtain ⟨h1, h2⟩ := rngN_get h
  exact ⟨by omega, h2⟩
theorem rngT0_length (n : Nat) : (rngT 0 (n : Int)).length = n := by rw [rngT_length]; omega
theorem rngT0_get {n i : Nat} {x : Int} (h : (rngT 0 (n : Int))[i]? = some x) : i < n ∧ x = i := by
  obtain ⟨h1, h2⟩ := rngT_get h
  omega
theorem ixN_n {n j : Nat} (hj : j < n) : ixN n (j : Int) = some j := by
  unfold ixN
  rw [if_pos (by omega), if_pos (by omega), Int.toNat_natCast]
theorem gt_co (xs : List Int) (k : Nat) : gt xs (k : Int) = co xs k := by
  unfold gt atI
  by_cases h : k < xs.length
  · rw [ixN_n h]
    show (xs[k]?).getD default = co xs k
    rw [co_lt h]; rfl
  · have : ixN xs.length (k : Int) = none := by
      unfold ixN
      rw [if_pos (by omega), if_neg (by omega)]
    rw [this, co_ge (by omega)]; rfl
theorem gt_get {α : Type} [Inhabited α] {xs : List α} {k : Nat} {x : α} (h : xs[k]? = some x) : gt xs (k : Int) = x := by
  unfold gt atI
  rw [ixN_n (List.getElem?_eq_some_iff.mp h).1]
  show (xs[k]?).getD default = x
  rw [h]; rfl
theorem gt_lt {α : Type} [Inhabited α] {xs : List α} {k : Nat} (h : k < xs.length) : gt xs (k : Int) = xs[k] := gt_get (List.getElem?_eq_getElem h)
theorem inR_nat {α : Type} {xs : List α} {k : Nat} (h : k < xs.length) : inR xs (k : Int) := by unfold inR; omega
theorem inR_i {α : Type} {xs : List α} {i : Int} (h0 : 0 ≤ i) (h : i < xs.length) : inR xs i := by unfold inR; omega
theorem inR_neg {α : Type} {xs : List α} (h : 0 < xs.length) : inR xs (-1 : Int) := by unfold inR; omega
theorem gt_neg {α : Type} [Inhabited α] {xs : List α} (h : 0 < xs.length) : gt xs (-1 : Int) = xs[xs.length - 1] := by
  unfold gt atI ixN
  rw [if_neg (by omega), if_pos (by omega)]
  show (xs[(((xs.length : Nat) : Int) + -1).toNat]?).getD default = _
  have e : (((xs.length : Nat) : Int) + -1).toNat = xs.length - 1 := by omega
  rw [e, List.getElem?_eq_getElem (by omega)]; rfl
theorem setT_nat {α : Type} {xs : List α} {k : Nat} {x : α} (h : k < xs.length) : setT xs (k : Int) x = xs.set k x := by
  unfold setT
  rw [ixN_n h]
theorem setT_len {α : Type} (xs : List α) (i : Int) (x : α) : (setT xs i x).length = xs.length := by
  unfold setT
  split <;> simp
theorem cut_take {α : Type} {xs : List α} {n : Nat} (h : n ≤ xs.length) : cutT xs none (some (n : Int)) = xs.take n := by
  unfold cutT
  rw [HT.sIx_none, HT.sIx_nat, List.drop_zero, Nat.sub_zero, Nat.min_eq_left h]
theorem cut_drop {α : Type} {xs : List α} {n : Nat} (h : n ≤ xs.length) : cutT xs (some (n : Int)) none = xs.drop n := by
  unfold cutT
  rw [HT.sIx_none, HT.sIx_nat, Nat.min_eq_left h]
  exact List.take_of_length_le (by rw [List.length_drop]; omega)
theorem rep_one (n : Int) : repT [(0 : Int)] n = List.replicate n.toNat 0 := by
  unfold repT
  induction n.toNat with
  | zero => rfl
  | succ n ih => rw [List.replicate_succ, List.flatten_cons, ih, List.replicate_succ]; rfl
theorem line_le {n : Nat} (h : n ≤ 10000000) : n ≤ LINE := by
  have : LINE = 16777216 := rfl
  omega
theorem line_lt {n : Nat} (h : n ≤ 10000000) : n < LINE := by
  have : LINE = 16777216 := rfl
  omega
theorem rng_zeros (n : Int) : (rngT 0 n).map (fun _ => (0 : Int)) = List.replicate n.toNat 0 := by
  rw [List.map_const']
  congr 1
  rw [rngT_length]
  omega
theorem enN_length {α : Type} (i : Nat) (xs : List α) : (enN i xs).length = xs.length := by
  induction xs generalizing i with
  | nil => rfl
  | cons x xs ih => simp [enN, ih]
theorem enN_get {α : Type} {k : Nat} : ∀ {xs : List α} {i : Nat} {p : Int × α}, (enN k xs)[i]? = some p → p.1 = ((k + i : Nat) : Int) ∧ xs[i]? = some p.2
  | [], _, _, h => by simp [enN] at h
  | x :: xs, 0, p, h => by simp [enN] at h; subst h; exact ⟨by simp, rfl⟩
  | x :: xs, i + 1, p, h => by
    obtain ⟨h1, h2⟩ := enN_get (k := k + 1) (xs := xs) (i := i) (p := p) (by simpa [enN] using h)
    exact ⟨by rw [h1]; push_cast; omega, by simpa using h2⟩
theorem enT_get {α : Type} {xs : List α} {i : Nat} {p : Int × α} (h : (enT xs)[i]? = some p) : p.1 = (i : Int) ∧ xs[i]? = some p.2 := by
  have := enN_get h
  simpa using this
/-! ### sizes -/
theorem mulOk_sm {i j : Int} {a b : Nat} (h : Sm i a) (k : Sm j b) (l : a + b ≤ 100000000) : mulOk i j = true := mulOk_of a b h.lt k.lt l h.pos k.pos
theorem mulOk_up {i j : Int} {m : Nat} (h : Sm i m) (k : Sm j m) (l : m ≤ 50000000) : mulOk i j = true := mulOk_sm h k (by omega)
theorem Sm.bound {x : Int} {n : Nat} (h : Sm x n) : x.natAbs < 2 ^ n := h.lt
theorem Sm.le {x y : Int} {n : Nat} (h : Sm y n) (l : x.natAbs ≤ y.natAbs) : Sm x n := ⟨Nat.lt_of_le_of_lt l h.lt, h.pos⟩
theorem Sm.nat {x : Int} {n : Nat} (lo : -(2 ^ n : Nat) < x) (hi : x < (2 ^ n : Nat)) (p : 0 < n) : Sm x n := ⟨by omega, p⟩
theorem Sm.mulUp {x y : Int} {a b c : Nat} (h : Sm x a) (k : Sm y b) (l : a + b ≤ c) : Sm (x * y) c := (Sm.mul (h := h) (k := k)).up l
theorem Sm.addUp2 {x y : Int} {a b c : Nat} (h : Sm x a) (k : Sm y b) (l : a + 1 ≤ c) (l' : b + 1 ≤ c) : Sm (x + y) c := by
  obtain ⟨m, rfl⟩ : ∃ m, c = m + 1 := ⟨c - 1, by omega⟩
  exact (h.up (b := m) (by omega)).addUp (k.up (by omega))
theorem Sm.negUp {x : Int} {a : Nat} (h : Sm x a) : Sm (-x) a := Sm.neg (h := h)
theorem Sm.subUp2 {x y : Int} {a b c : Nat} (h : Sm x a) (k : Sm y b) (l : a + 1 ≤ c) (l' : b + 1 ≤ c) : Sm (x - y) c := by
  rw [Int.sub_eq_add_neg]; exact h.addUp2 k.negUp l l'
theorem Sm.abs {x : Int} {a : Nat} (h : Sm x a) : Sm (x.natAbs : Int) a := h.le (by omega)
theorem rOk_nat {n : Nat} (h : n ≤ 1000000000000) : rOk (n : Int) = true := rOk_of (by omega) (by omega)
/-! ### divisors -/
theorem divisor_spec (a b : Int) : v_law_divisor a b ∧ q_law_divisor a b = Int.gcd a b := by
  have := whV_inv (t := fun (s1 : Int × Int) => (decide (s1.2 > (0 : Int)))) (Vt := fun (s1 : Int × Int) => True) (f := fun (s1 : Int × Int) => q_law_divisor_3 s1.1 s1.2) (V := fun (s1 : Int × Int) => v_law_divisor_3 s1.1 s1.2)
    (fun n s => s.2 = (n : Int) ∧ 0 ≤ s.1 ∧ Int.gcd s.1 s.2 = Int.gcd a b) b.natAbs (s := ((a.natAbs : Int), (b.natAbs : Int))) ⟨rfl, by simp, by simp [Int.gcd]⟩ fun n s ⟨h1, h2, h3⟩ => by
      refine ⟨trivial, ?_⟩
      obtain ⟨x, y⟩ := s
      dsimp only at *
      cases n with
      | zero => left; subst h1; rfl
      | succ n =>
        right
        have hp : 0 < y := by omega
        have hf := fmod_pos (i := x) hp
        refine ⟨decide_eq_true hp, by show y ≠ 0; omega, (x.fmod y).toNat, by omega, ?_⟩
        show x.fmod y = _ ∧ 0 ≤ y ∧ Int.gcd y (x.fmod y) = _
        refine ⟨by omega, by omega, ?_⟩
        rw [← h3, Int.fmod_eq_emod_of_nonneg _ (by omega)]
        obtain ⟨X, rfl⟩ := Int.eq_ofNat_of_zero_le h2
        obtain ⟨Y, rfl⟩ := Int.eq_ofNat_of_zero_le (Int.le_of_lt hp)
        show Nat.gcd Y (X % Y) = Nat.gcd X Y
        rw [Nat.gcd_comm X Y, Nat.gcd_rec Y X, Nat.gcd_comm]
  obtain ⟨v, k, ⟨h1, h2, h3⟩, h4⟩ := this
  refine ⟨v, ?_⟩
  show (wh (fun (s1 : Int × Int) => (decide (s1.2 > (0 : Int)))) (fun (s1 : Int × Int) => q_law_divisor_3 s1.1 s1.2) ((a.natAbs : Int), (b.natAbs : Int))).1 = _
  generalize wh (fun (s1 : Int × Int) => (decide (s1.2 > (0 : Int)))) (fun (s1 : Int × Int) => q_law_divisor_3 s1.1 s1.2) ((a.natAbs : Int), (b.natAbs : Int)) = s at *
  obtain ⟨x, y⟩ := s
  dsimp only at *
  have hk : y = 0 := by
    have := of_decide_eq_false h4
    omega
  subst hk
  rw [← h3]
  simp [Int.gcd]
  omega
theorem is_integer (x : Int) : q_law_is_integer x = true := rfl
/-! ### fractions -/
def fr (n d : Int) : Fr := ⟨frP n d, frQ n d⟩
theorem frS_cases (n d : Int) : (if decide (d < 0) = true then -((Int.gcd n d : Nat) : Int) else ((Int.gcd n d : Nat) : Int)) = frS n d := by
  unfold frS
  by_cases h : d < 0
  · rw [if_pos (decide_eq_true h), if_pos h]
  · rw [if_neg (by simpa using h), if_neg h]
theorem frac_spec {n d : Int} (hd : d ≠ 0) : v_Fraction_init n d ∧ q_Fraction_init n d = fr n d := by
  constructor
  · refine ⟨decide_eq_false hd, ?_⟩
    show (if decide (d < 0) = true then -((Int.gcd n d : Nat) : Int) else ((Int.gcd n d : Nat) : Int)) ≠ 0 ∧ (if decide (d < 0) = true then -((Int.gcd n d : Nat) : Int) else ((Int.gcd n d : Nat) : Int)) ≠ 0
    rw [frS_cases]
    exact ⟨frS_ne hd, frS_ne hd⟩
  · show (⟨n.fdiv (if decide (d < 0) = true then -((Int.gcd n d : Nat) : Int) else ((Int.gcd n d : Nat) : Int)), d.fdiv (if decide (d < 0) = true then -((Int.gcd n d : Nat) : Int) else ((Int.gcd n d : Nat) : Int))⟩ : Fr) = _
    rw [frS_cases]; rfl
theorem fr_ext {n d n' d' : Int} (hd : d ≠ 0) (hd' : d' ≠ 0) (h : n * d' = n' * d) : fr n d = fr n' d' := by
  obtain ⟨a, b⟩ := fr_canon hd hd' h
  unfold fr; rw [a, b]
theorem frP_sm {n d : Int} {b : Nat} (hd : d ≠ 0) (h : Sm n b) : Sm (frP n d) b := h.le (frP_le hd)
theorem frQ_sm {n d : Int} {b : Nat} (hd : d ≠ 0) (h : Sm d b) : Sm (frQ n d) b := h.le (frQ_le hd)
theorem fr_iff {N D n d : Int} (hD : D ≠ 0) : frP N D * d = n * frQ N D ↔ N * d = n * D := by
  have h1 := frP_mul (n := N) hD
  have h2 := frQ_mul (n := N) hD
  have h3 := frS_ne (n := N) hD
  constructor
  · intro h
    generalize frP N D = p at *
    generalize frQ N D = q at *
    generalize frS N D = s at *
    rw [← h1, ← h2]
    grind
  · intro h
    refine Int.eq_of_mul_eq_mul_right h3 ?_
    calc frP N D * d * frS N D = frP N D * frS N D * d := by rw [Int.mul_right_comm]
      _ = n * (frQ N D * frS N D) := by rw [h1, h2, h]
      _ = _ := by rw [Int.mul_assoc]
theorem lawIs_spec {N D n d : Int} (hD : D ≠ 0) {a : Nat} (s1 : Sm N a) (s2 : Sm D a) (s3 : Sm n a) (s4 : Sm d a) (l : a ≤ 50000000) : v_law_is (fr N D) n d ∧ q_law_is (fr N D) n d = decide (N * d = n * D) := by
  have hq := frQ_pos (n := N) hD
  have hg := fr_gcd (n := N) hD
  obtain ⟨v, e⟩ := divisor_spec (frP N D) (frQ N D)
  have k1 := mulOk_up (frP_sm hD s1) s4 l
  have k2 := mulOk_up s3 (frQ_sm (n := N) hD s2) l
  constructor
  · intro _
    exact ⟨fun _ => v, fun _ => ⟨k1, k2⟩⟩
  · show (if ((!true) || ((!(q_law_is_integer (frP N D))) || (!(q_law_is_integer (frQ N D))))) = true then q_law_is_1 else q_law_is_2 (fr N D) n d) = _
    rw [if_neg (by rw [is_integer, is_integer]; simp)]
    show (if ((decide (frQ N D < (1 : Int))) || (!decide ((q_law_divisor (frP N D) (frQ N D)) = (1 : Int)))) = true then q_law_is_3 else decide (frP N D * d = n * frQ N D)) = _
    rw [if_neg (by rw [e, hg]; simp; omega)]
    rw [decide_eq_decide]
    exact fr_iff hD
end Pd

set_option maxHeartbeats 2000000
/-! MxC: the ring of series over a commutative ring. -/
namespace Pd
open PySem PySem.Spec L2
universe u
structure Ps (R : Type u) where
  cf : Nat → R
namespace Ps
open Lean.Grind
variable {R : Type u} [CommRing R]
local instance : NatCast R := Semiring.natCast
local instance : IntCast R := Ring.intCast
theorem ext {f g : Ps R} (h : ∀ k, f.cf k = g.cf k) : f = g := by
  cases f; cases g
  exact congrArg Ps.mk (funext h)
def sh (f : Nat → R) (k : Nat) : R := f (k + 1)
def cv (f g : Nat → R) : Nat → R
  | 0 => f 0 * g 0
  | k + 1 => f 0 * g (k + 1) + cv (sh f) g k
theorem cv_r (k : Nat) : ∀ (f g : Nat → R), cv f g (k + 1) = cv f (sh g) k + f (k + 1) * g 0 := by
  induction k with
  | zero => intro f g; rfl
  | succ k ih =>
    intro f g
    show f 0 * g (k + 2) + cv (sh f) g (k + 1) = (f 0 * g (k + 2) + cv (sh f) (sh g) k) + f (k + 2) * g 0
    rw [ih (sh f) g]
    show f 0 * g (k + 2) + (cv (sh f) (sh g) k + f (k + 2) * g 0) = _
    grind
theorem cv_comm (k : Nat) : ∀ (f g : Nat → R), cv f g k = cv g f k := by
  induction k with
  | zero => intro f g; show f 0 * g 0 = g 0 * f 0; grind
  | succ k ih =>
    intro f g
    rw [cv_r k g f]
    show f 0 * g (k + 1) + cv (sh f) g k = _
    rw [ih]
    grind
theorem cv_add (k : Nat) : ∀ (f g h : Nat → R), cv f (fun i => g i + h i) k = cv f g k + cv f h k := by
  induction k with
  | zero => intro f g h; show f 0 * (g 0 + h 0) = f 0 * g 0 + f 0 * h 0; grind
  | succ k ih =>
    intro f g h
    have := ih (sh f) g h
    show f 0 * (g (k + 1) + h (k + 1)) + cv (sh f) (fun i => g i + h i) k = f 0 * g (k + 1) + cv (sh f) g k + (f 0 * h (k + 1) + cv (sh f) h k)
    rw [this]
    grind
theorem cv_smul (c : R) (k : Nat) : ∀ (f g : Nat → R), cv (fun i => c * f i) g k = c * cv f g k := by
  induction k with
  | zero => intro f g; show c * f 0 * g 0 = c * (f 0 * g 0); grind
  | succ k ih =>
    intro f g
    have := ih (sh f) g
    show c * f 0 * g (k + 1) + cv (fun i => c * sh f i) g k = c * (f 0 * g (k + 1) + cv (sh f) g k)
    rw [this]
    grind
theorem cv_addl (k : Nat) (f g h : Nat → R) : cv (fun i => g i + h i) f k = cv g f k + cv h f k := by
  rw [cv_comm, cv_add, cv_comm k f g, cv_comm k f h]
theorem cv_assoc (k : Nat) : ∀ (f g h : Nat → R), cv (cv f g) h k = cv f (cv g h) k := by
  induction k with
  | zero => intro f g h; show f 0 * g 0 * h 0 = f 0 * (g 0 * h 0); grind
  | succ k ih =>
    intro f g h
    have e : sh (cv f g) = fun i => f 0 * sh g i + cv (sh f) g i := rfl
    have a := cv_addl k h (fun i => f 0 * sh g i) (cv (sh f) g)
    have b := cv_smul (f 0) k (sh g) h
    have c := ih (sh f) g h
    show f 0 * g 0 * h (k + 1) + cv (sh (cv f g)) h k = f 0 * (g 0 * h (k + 1) + cv (sh g) h k) + cv (sh f) (cv g h) k
    rw [e, a, b, c]
    grind
def kc (r : R) : Nat → R
  | 0 => r
  | _ + 1 => 0
theorem cv_zero (k : Nat) : ∀ (g : Nat → R), cv (fun _ => 0) g k = 0 := by
  induction k with
  | zero => intro g; show 0 * g 0 = 0; grind
  | succ k ih =>
    intro g
    have := ih g
    show 0 * g (k + 1) + cv (fun _ => 0) g k = 0
    rw [this]
    grind
theorem sh_kc (r : R) : sh (kc r) = fun _ => 0 := rfl
theorem cv_kc (r : R) (g : Nat → R) (k : Nat) : cv (kc r) g k = r * g k := by
  cases k with
  | zero => rfl
  | succ k =>
    show r * g (k + 1) + cv (sh (kc r)) g k = _
    rw [sh_kc, cv_zero]
    grind
instance : Add (Ps R) := ⟨fun f g => ⟨fun k => f.cf k + g.cf k⟩⟩
instance : Mul (Ps R) := ⟨fun f g => ⟨cv f.cf g.cf⟩⟩
instance : Neg (Ps R) := ⟨fun f => ⟨fun k => -f.cf k⟩⟩
instance : Sub (Ps R) := ⟨fun f g => ⟨fun k => f.cf k - g.cf k⟩⟩
def c (r : R) : Ps R := ⟨kc r⟩
instance : NatCast (Ps R) := ⟨fun n => c (n : R)⟩
instance : IntCast (Ps R) := ⟨fun n => c (n : R)⟩
instance (n : Nat) : OfNat (Ps R) n := ⟨c (OfNat.ofNat n)⟩
def pw (f : Ps R) : Nat → Ps R
  | 0 => c 1
  | n + 1 => pw f n * f
instance : HPow (Ps R) Nat (Ps R) := ⟨pw⟩
instance : SMul Nat (Ps R) := ⟨fun n f => (n : Ps R) * f⟩
instance : SMul Int (Ps R) := ⟨fun n f => (n : Ps R) * f⟩
@[simp] theorem add_cf (f g : Ps R) (k : Nat) : (f + g).cf k = f.cf k + g.cf k := rfl
@[simp] theorem neg_cf (f : Ps R) (k : Nat) : (-f).cf k = -f.cf k := rfl
@[simp] theorem sub_cf (f g : Ps R) (k : Nat) : (f - g).cf k = f.cf k - g.cf k := rfl
theorem mul_cf (f g : Ps R) (k : Nat) : (f * g).cf k = cv f.cf g.cf k := rfl
@[simp] theorem zero_cf (k : Nat) : (0 : Ps R).cf k = 0 := by cases k <;> rfl
theorem one_cf (k : Nat) : (1 : Ps R).cf k = if k = 0 then 1 else 0 := by cases k <;> rfl
theorem c_cf (r : R) (k : Nat) : (c r).cf k = if k = 0 then r else 0 := by cases k <;> rfl
theorem c_mul (r : R) (g : Ps R) (k : Nat) : (c r * g).cf k = r * g.cf k := cv_kc r g.cf k
theorem mul_comm' (f g : Ps R) : f * g = g * f := ext fun k => cv_comm k _ _
theorem c_neg (r : R) : c (-r) = -c r := ext fun k => by
  cases k with
  | zero => rfl
  | succ k => show (0 : R) = -0; grind
theorem c_add (r s : R) : c (r + s) = c r + c s := ext fun k => by
  cases k with
  | zero => rfl
  | succ k => show (0 : R) = 0 + 0; grind
theorem c_mulc (r s : R) : c (r * s) = c r * c s := ext fun k => by
  rw [c_mul]
  cases k with
  | zero => rfl
  | succ k => show (0 : R) = r * 0; grind
instance : CommRing (Ps R) where
  add_zero f := ext fun k => by rw [add_cf, zero_cf]; grind
  add_comm f g := ext fun k => by rw [add_cf, add_cf]; grind
  add_assoc f g h := ext fun k => by rw [add_cf, add_cf, add_cf, add_cf]; grind
  mul_assoc f g h := ext fun k => cv_assoc k _ _ _
  mul_comm := mul_comm'
  mul_one f := by rw [mul_comm']; exact ext fun k => by rw [show (1 : Ps R) = c 1 from rfl, c_mul]; grind
  one_mul f := ext fun k => by rw [show (1 : Ps R) = c 1 from rfl, c_mul]; grind
  left_distrib f g h := ext fun k => cv_add k _ _ _
  right_distrib f g h := ext fun k => cv_addl k _ _ _
  zero_mul f := ext fun k => by rw [show (0 : Ps R) = c 0 from rfl, c_mul, show (c (0 : R)).cf k = (0 : Ps R).cf k from rfl, zero_cf]; grind
  mul_zero f := by rw [mul_comm']; exact ext fun k => by rw [show (0 : Ps R) = c 0 from rfl, c_mul, show (c (0 : R)).cf k = (0 : Ps R).cf k from rfl, zero_cf]; grind
  pow_zero f := rfl
  pow_succ f n := rfl
  ofNat_succ n := by
    show c (OfNat.ofNat (n + 1)) = c (OfNat.ofNat n) + c 1
    rw [← c_add, Semiring.ofNat_succ]
  ofNat_eq_natCast n := by
    show c (OfNat.ofNat n) = c (n : R)
    rw [Semiring.ofNat_eq_natCast]
  neg_add_cancel f := ext fun k => by rw [add_cf, neg_cf, zero_cf]; grind
  sub_eq_add_neg f g := ext fun k => by rw [sub_cf, add_cf, neg_cf]; grind
  neg_zsmul i f := ext fun k => by
    show ((-i : Int) • f).cf k = (-(i • f)).cf k
    rw [neg_cf]
    show (c ((-i : Int) : R) * f).cf k = -(c (i : R) * f).cf k
    rw [c_mul, c_mul, Ring.intCast_neg]; grind
  zsmul_natCast_eq_nsmul n f := by
    show c (((n : Int) : R)) * f = c (n : R) * f
    rw [Ring.intCast_natCast]
  intCast_ofNat n := by
    show c ((OfNat.ofNat n : Int) : R) = c (OfNat.ofNat n)
    rw [Ring.intCast_ofNat]
  intCast_neg i := by
    show c ((-i : Int) : R) = -c (i : R)
    rw [Ring.intCast_neg, c_neg]
/-- the variable -/
def X : Ps R := ⟨fun k => if k = 1 then 1 else 0⟩
def shp (f : Ps R) : Ps R := ⟨sh f.cf⟩
theorem X_zero (f : Ps R) : (X * f).cf 0 = 0 := by
  show (if (0 : Nat) = 1 then 1 else 0) * f.cf 0 = 0
  rw [if_neg (by omega)]; grind
theorem X_succ (f : Ps R) (k : Nat) : (X * f).cf (k + 1) = f.cf k := by
  show (if (0 : Nat) = 1 then (1 : R) else 0) * f.cf (k + 1) + cv (sh (fun k => if k = 1 then (1 : R) else 0)) f.cf k = _
  have : sh (fun k => if k = 1 then (1 : R) else 0) = kc 1 := by
    funext k
    cases k with
    | zero => rfl
    | succ k => show (if k + 1 + 1 = 1 then (1 : R) else 0) = 0; rw [if_neg (by omega)]
  rw [this, cv_kc, if_neg (by omega)]
  grind
theorem split (f : Ps R) : f = c (f.cf 0) + X * shp f := ext fun k => by
  rw [add_cf]
  cases k with
  | zero => rw [X_zero]; show f.cf 0 = f.cf 0 + 0; grind
  | succ k => rw [X_succ]; show f.cf (k + 1) = 0 + f.cf (k + 1); grind
theorem shp_mul (f g : Ps R) : shp (f * g) = c (f.cf 0) * shp g + shp f * g := ext fun k => by
  rw [add_cf, c_mul]; rfl
/-- zero from n on -/
def Bd (n : Nat) (f : Ps R) : Prop := ∀ k, n ≤ k → f.cf k = 0
theorem Bd.up {n m : Nat} {f : Ps R} (h : Bd n f) (l : n ≤ m) : Bd m f := fun k hk => h k (by omega)
theorem Bd.add {n : Nat} {f g : Ps R} (h : Bd n f) (k : Bd n g) : Bd n (f + g) := fun i hi => by rw [add_cf, h i hi, k i hi]; grind
theorem Bd.neg {n : Nat} {f : Ps R} (h : Bd n f) : Bd n (-f) := fun i hi => by rw [neg_cf, h i hi]; grind
theorem Bd.sub {n : Nat} {f g : Ps R} (h : Bd n f) (k : Bd n g) : Bd n (f - g) := fun i hi => by rw [sub_cf, h i hi, k i hi]; grind
theorem Bd.c (r : R) : Bd 1 (Ps.c r) := fun i hi => by rw [c_cf, if_neg (by omega)]
theorem Bd.zero : Bd 0 (0 : Ps R) := fun i hi => zero_cf (R := R) i
theorem Bd.shp {n : Nat} {f : Ps R} (h : Bd (n + 1) f) : Bd n (shp f) := fun i hi => h (i + 1) (by omega)
theorem Bd.nil {f : Ps R} (h : Bd 0 f) : f = 0 := ext fun k => by rw [h k (Nat.zero_le _), zero_cf]
theorem Bd.cmul {n : Nat} {f : Ps R} (r : R) (h : Bd n f) : Bd n (Ps.c r * f) := fun i hi => by rw [c_mul, h i hi]; grind
theorem Bd.Xmul {n : Nat} {f : Ps R} (h : Bd n f) : Bd (n + 1) (X * f) := fun i hi => by
  cases i with
  | zero => omega
  | succ i => rw [X_succ]; exact h i (by omega)
theorem Bd.mul : ∀ {n m : Nat} {f g : Ps R}, Bd n f → Bd m g → Bd (n + m - 1) (f * g)
  | 0, m, f, g, h, k => by
    rw [h.nil]
    have : (0 : Ps R) * g = 0 := by grind
    rw [this]; exact Bd.zero.up (by omega)
  | n + 1, m, f, g, h, k => by
    have ih := Bd.mul h.shp k
    have e : f * g = Ps.c (f.cf 0) * g + X * (Ps.shp f * g) := by
      conv => lhs; rw [split f]
      grind
    rw [e]
    cases n with
    | zero =>
      have : Ps.shp f = 0 := (Bd.shp (n := 0) h).nil
      rw [this]
      have z : X * (0 * g) = 0 := by grind
      rw [z]
      exact Bd.add ((Bd.cmul _ k).up (by omega)) (Bd.zero.up (by omega))
    | succ n =>
      exact Bd.add ((Bd.cmul _ k).up (by omega)) ((Bd.Xmul ih).up (by omega))
/-- the value at x of a series that is zero from n on -/
def ev : Nat → Ps R → R → R
  | 0, _, _ => 0
  | n + 1, f, x => f.cf 0 + x * ev n (shp f) x
theorem ev_zero (n : Nat) (x : R) : ev n (0 : Ps R) x = 0 := by
  induction n with
  | zero => rfl
  | succ n ih =>
    have : shp (0 : Ps R) = 0 := ext fun k => (zero_cf (R := R) (k + 1)).trans (zero_cf k).symm
    show (0 : Ps R).cf 0 + x * ev n (shp 0) x = 0
    rw [this, ih, zero_cf]; grind
theorem ev_up : ∀ {n m : Nat} {f : Ps R} (x : R), Bd n f → n ≤ m → ev m f x = ev n f x
  | 0, m, f, x, h, l => by rw [h.nil, ev_zero]; rfl
  | n + 1, 0, f, x, h, l => by omega
  | n + 1, m + 1, f, x, h, l => by
    show f.cf 0 + x * ev m (shp f) x = f.cf 0 + x * ev n (shp f) x
    rw [ev_up x h.shp (by omega)]
theorem ev_add (n : Nat) : ∀ (f g : Ps R) (x : R), ev n (f + g) x = ev n f x + ev n g x := by
  induction n with
  | zero => intro f g x; show (0 : R) = 0 + 0; grind
  | succ n ih =>
    intro f g x
    have := ih (shp f) (shp g) x
    show (f.cf 0 + g.cf 0) + x * ev n (shp f + shp g) x = _ + x * ev n (shp f) x + (_ + x * ev n (shp g) x)
    rw [this]
    grind
theorem ev_cmul (n : Nat) : ∀ (r : R) (f : Ps R) (x : R), ev n (c r * f) x = r * ev n f x := by
  induction n with
  | zero => intro r f x; show (0 : R) = r * 0; grind
  | succ n ih =>
    intro r f x
    have e : shp (c r * f) = c r * shp f := ext fun k => by
      show (c r * f).cf (k + 1) = _
      rw [c_mul, c_mul]; rfl
    show (c r * f).cf 0 + x * ev n (shp (c r * f)) x = r * (f.cf 0 + x * ev n (shp f) x)
    rw [e, ih, c_mul]
    grind
theorem ev_X (n : Nat) (f : Ps R) (x : R) : ev (n + 1) (X * f) x = x * ev n f x := by
  show (X * f).cf 0 + x * ev n (shp (X * f)) x = _
  have : shp (X * f) = f := ext fun k => X_succ f k
  rw [this, X_zero]; grind
theorem ev_mul : ∀ {n m l : Nat} {f g : Ps R} (x : R), Bd n f → Bd m g → n + m ≤ l → ev l (f * g) x = ev n f x * ev m g x
  | 0, m, l, f, g, x, h, k, e => by
    rw [h.nil]
    have : (0 : Ps R) * g = 0 := by grind
    rw [this, ev_zero]
    show (0 : R) = 0 * _
    grind
  | n + 1, m, 0, f, g, x, h, k, e => by omega
  | n + 1, m, l + 1, f, g, x, h, k, e => by
    have e1 : f * g = Ps.c (f.cf 0) * g + X * (Ps.shp f * g) := by
      conv => lhs; rw [split f]
      grind
    rw [e1, ev_add, ev_cmul, ev_X, ev_mul x h.shp k (by omega), ev_up x k (show m ≤ l + 1 by omega)]
    show _ = (f.cf 0 + x * ev n (shp f) x) * ev m g x
    grind
theorem ev_neg (n : Nat) (f : Ps R) (x : R) : ev n (-f) x = -ev n f x := by
  have : -f = c (-1) * f := ext fun k => by rw [neg_cf, c_mul]; grind
  rw [this, ev_cmul]; grind
theorem ev_c (n : Nat) (r x : R) : ev (n + 1) (c r) x = r := by
  show r + x * ev n (shp (c r)) x = r
  have : shp (c r) = 0 := ext fun k => by rw [zero_cf]; rfl
  rw [this, ev_zero]; grind
end Ps
end Pd

set_option maxHeartbeats 2000000
/-! MxD: fractions and polynomials by value (Rat) and by size. -/
namespace Pd
open PySem PySem.Spec L2
theorem ic_ne {d : Int} (h : d ≠ 0) : (d : Rat) ≠ 0 := fun z => h (Rat.intCast_inj.mp (by rw [z]; rfl))
theorem ic_eq {a b : Int} (h : (a : Rat) = (b : Rat)) : a = b := Rat.intCast_inj.mp h
theorem rat_div_eq {a b c d : Int} (hb : b ≠ 0) (hd : d ≠ 0) : (a : Rat) / b = (c : Rat) / d ↔ a * d = c * b := by
  have h1 := ic_ne hb
  have h2 := ic_ne hd
  constructor
  · intro h
    apply ic_eq
    rw [Rat.intCast_mul, Rat.intCast_mul]
    grind
  · intro h
    have : (a : Rat) * d = c * b := by rw [← Rat.intCast_mul, ← Rat.intCast_mul, h]
    grind
/-! ### fractions -/
def fv (a : Fr) : Rat := (a.num : Rat) / (a.den : Rat)
structure FrS (a : Fr) (b : Nat) : Prop where
  pos : 0 < a.den
  cop : Int.gcd a.num a.den = 1
  n : Sm a.num b
  d : Sm a.den b
theorem FrS.up {a : Fr} {b c : Nat} (h : FrS a b) (l : b ≤ c) : FrS a c := ⟨h.pos, h.cop, h.n.up l, h.d.up l⟩
theorem FrS.ne {a : Fr} {b : Nat} (h : FrS a b) : (a.den : Rat) ≠ 0 := ic_ne (by have := h.pos; omega)
theorem FrS.num {a : Fr} {b : Nat} (h : FrS a b) : (a.num : Rat) = fv a * a.den := by
  have := h.ne
  unfold fv; grind
theorem frac_mk {n d : Int} {b : Nat} (hd : d ≠ 0) (h1 : Sm n b) (h2 : Sm d b) : v_Fraction_init n d ∧ FrS (q_Fraction_init n d) b ∧ fv (q_Fraction_init n d) = (n : Rat) / (d : Rat) := by
  obtain ⟨v, e⟩ := frac_spec (n := n) hd
  refine ⟨v, ?_, ?_⟩
  · rw [e]
    exact ⟨frQ_pos hd, fr_gcd hd, frP_sm hd h1, frQ_sm hd h2⟩
  · rw [e]
    show (frP n d : Rat) / (frQ n d : Rat) = _
    rw [rat_div_eq (by have := frQ_pos (n := n) hd; omega) hd]
    exact fr_cross hd
theorem fr_self {a : Fr} {b : Nat} (h : FrS a b) : fr a.num a.den = a := by
  have hd : a.den ≠ 0 := by have := h.pos; omega
  have g : frS a.num a.den = 1 := by
    unfold frS
    rw [if_neg (by have := h.pos; omega), h.cop]; rfl
  obtain ⟨x, y⟩ := a
  show (⟨frP x y, frQ x y⟩ : Fr) = ⟨x, y⟩
  have e1 := frP_mul (n := x) (d := y) hd
  have e2 := frQ_mul (n := x) (d := y) hd
  rw [g] at e1 e2
  rw [show frP x y = x by omega, show frQ x y = y by omega]
theorem fv_inj {a a' : Fr} {b b' : Nat} (h : FrS a b) (h' : FrS a' b') (e : fv a = fv a') : a = a' := by
  rw [← fr_self h, ← fr_self h']
  exact fr_ext (by have := h.pos; omega) (by have := h'.pos; omega) ((rat_div_eq (by have := h.pos; omega) (by have := h'.pos; omega)).mp e)
theorem fv_zero {a : Fr} {b : Nat} (h : FrS a b) : fv a = 0 ↔ a.num = 0 := by
  have := h.num
  have h2 := h.ne
  constructor
  · intro e
    rw [e] at this
    apply ic_eq
    grind
  · intro e
    rw [e] at this
    grind
theorem lawIs_v {x : Fr} {n d : Int} {a : Nat} (hx : FrS x a) (s3 : Sm n a) (s4 : Sm d a) (hd : d ≠ 0) (l : a ≤ 50000000) : v_law_is x n d ∧ q_law_is x n d = decide (fv x = (n : Rat) / (d : Rat)) := by
  have hD : x.den ≠ 0 := by have := hx.pos; omega
  obtain ⟨v, e⟩ := lawIs_spec (N := x.num) (n := n) (d := d) hD hx.n hx.d s3 s4 l
  rw [fr_self hx] at v e
  refine ⟨v, ?_⟩
  rw [e, decide_eq_decide]
  exact (rat_div_eq hD hd).symm
/-! ### polynomials -/
def po (xs : List Int) (d : Int) : Po := ⟨plC xs d, plD xs d⟩
theorem trim_spec {xs : List Int} : v_trimmed xs ∧ q_trimmed xs = trim xs := by
  have := whV_inv (t := fun (s1 : Int) => ((decide (s1 > (0 : Int))) && (decide ((gt xs (s1 - (1 : Int))) = (0 : Int))))) (Vt := fun (s1 : Int) => ((decide (s1 > (0 : Int))) = true → inR xs (s1 - (1 : Int)))) (f := fun (s1 : Int) => q_trimmed_2 xs s1) (V := fun (s1 : Int) => True)
    (fun n s => s = (n : Int) ∧ n ≤ xs.length ∧ tsz xs ≤ n) xs.length (s := (xs.length : Int)) ⟨rfl, Nat.le_refl _, tsz_le xs⟩ fun n s ⟨h1, h2, h3⟩ => by
      subst h1
      refine ⟨fun hp => by have := of_decide_eq_true hp; unfold inR; omega, ?_⟩
      cases n with
      | zero => left; rfl
      | succ n =>
        have e : ((n + 1 : Nat) : Int) - 1 = (n : Int) := by omega
        by_cases hz : co xs n = 0
        · right
          refine ⟨by rw [e, gt_co, hz]; simp, trivial, n, by omega, ?_, by omega, ?_⟩
          · show ((n + 1 : Nat) : Int) - 1 = _; omega
          · rcases Nat.lt_or_ge n (tsz xs) with l | l
            · exact absurd hz (by have := tsz_last xs (by omega); rwa [show tsz xs - 1 = n by omega] at this)
            · exact l
        · left
          rw [e, gt_co, decide_eq_false hz, Bool.and_false]
  obtain ⟨v, k, ⟨h1, h2, h3⟩, h4⟩ := this
  refine ⟨v, ?_⟩
  show cutT xs none (some (wh (fun (s1 : Int) => ((decide (s1 > (0 : Int))) && (decide ((gt xs (s1 - (1 : Int))) = (0 : Int))))) (fun (s1 : Int) => q_trimmed_2 xs s1) (xs.length : Int))) = _
  generalize wh (fun (s1 : Int) => ((decide (s1 > (0 : Int))) && (decide ((gt xs (s1 - (1 : Int))) = (0 : Int))))) (fun (s1 : Int) => q_trimmed_2 xs s1) (xs.length : Int) = s at *
  subst h1
  rw [cut_take h2]
  unfold trim
  congr 1
  cases k with
  | zero => omega
  | succ n =>
    have e : ((n + 1 : Nat) : Int) - 1 = (n : Int) := by omega
    have hz : co xs n ≠ 0 := fun z => by
      rw [e, gt_co, decide_eq_true z] at h4
      simp at h4
    rcases Nat.lt_or_ge n (tsz xs) with l | l
    · omega
    · exact absurd (tsz_zero xs n l) hz
theorem content_spec (xs : List Int) : q_content xs = (cont xs : Int) := by
  show xs.foldl (fun (s1 : Int) (x2 : Int) => (Int.gcd s1 x2 : Int)) 0 = _
  exact foldl_int xs 0
theorem polyInit_spec {xs : List Int} {d : Int} (hd : d ≠ 0) (hl : xs.length ≤ 10000000) : v_Poly_init xs d ∧ q_Poly_init xs d = po xs d := by
  obtain ⟨v, e⟩ := trim_spec (xs := xs)
  have es : q_Poly_init_5 d (trim xs) (Int.gcd (q_content (trim xs)) d : Int) = plS xs d := by
    show (if decide (d < 0) = true then -((Int.gcd (q_content (trim xs)) d : Nat) : Int) else ((Int.gcd (q_content (trim xs)) d : Nat) : Int)) = _
    rw [content_spec]
    unfold plS
    by_cases h : d < 0
    · rw [if_pos (decide_eq_true h), if_pos h]; rfl
    · rw [if_neg (by simpa using h), if_neg h]; rfl
  constructor
  · refine ⟨decide_eq_false hd, v, ?_⟩
    show v_Poly_init_6 d (q_trimmed xs) (q_Poly_init_5 d (q_trimmed xs) (Int.gcd (q_content (q_trimmed xs)) d : Int))
    rw [e, es]
    refine ⟨fun _ _ => plS_ne hd, line_le (by rw [trim_len]; have := tsz_le xs; omega), plS_ne hd⟩
  · show (⟨(q_Poly_init_6 d (q_trimmed xs) (q_Poly_init_5 d (q_trimmed xs) (Int.gcd (q_content (q_trimmed xs)) d : Int))).1, (q_Poly_init_6 d (q_trimmed xs) (q_Poly_init_5 d (q_trimmed xs) (Int.gcd (q_content (q_trimmed xs)) d : Int))).2⟩ : Po) = _
    rw [e, es]; rfl
structure PoS (p : Po) (n b : Nat) : Prop where
  pos : 0 < p.den
  cop : Nat.gcd (cont p.coefs) p.den.natAbs = 1
  last : p.coefs ≠ [] → co p.coefs (p.coefs.length - 1) ≠ 0
  len : p.coefs.length ≤ n
  c : ∀ k, Sm (co p.coefs k) b
  d : Sm p.den b
theorem PoS.up {p : Po} {n b m c : Nat} (h : PoS p n b) (l : n ≤ m) (l' : b ≤ c) : PoS p m c := ⟨h.pos, h.cop, h.last, by have := h.len; omega, fun k => (h.c k).up l', h.d.up l'⟩
def pv (p : Po) : Ps Rat := ⟨fun k => (co p.coefs k : Rat) / (p.den : Rat)⟩
def lv (xs : List Int) : Ps Rat := ⟨fun k => (co xs k : Rat)⟩
theorem PoS.ne {p : Po} {n b : Nat} (h : PoS p n b) : (p.den : Rat) ≠ 0 := ic_ne (by have := h.pos; omega)
theorem PoS.ne' {p : Po} {n b : Nat} (h : PoS p n b) : p.den ≠ 0 := by have := h.pos; omega
theorem PoS.tsz {p : Po} {n b : Nat} (h : PoS p n b) : tsz p.coefs = p.coefs.length := tsz_eq (fun k hk => co_ge hk) fun hn => h.last fun e => hn (by rw [e]; rfl)
theorem poly_mk {xs : List Int} {d : Int} {n b : Nat} (hd : d ≠ 0) (hl : xs.length ≤ n) (hn : n ≤ 10000000) (h1 : ∀ k, Sm (co xs k) b) (h2 : Sm d b) : v_Poly_init xs d ∧ PoS (q_Poly_init xs d) n b ∧ ∀ k, (pv (q_Poly_init xs d)).cf k = (co xs k : Rat) / (d : Rat) := by
  obtain ⟨v, e⟩ := polyInit_spec (xs := xs) hd (by omega)
  refine ⟨v, ?_, ?_⟩
  · rw [e]
    exact ⟨plD_pos hd, pl_gcd hd, plC_last hd, by show (plC xs d).length ≤ n; rw [plC_len]; have := tsz_le xs; omega, fun k => (h1 k).le (plC_small hd k), h2.le (plD_small hd)⟩
  · intro k
    rw [e]
    show (co (plC xs d) k : Rat) / (plD xs d : Rat) = _
    rw [rat_div_eq (by have := plD_pos (xs := xs) hd; omega) hd]
    exact pl_cross hd k
theorem po_self {p : Po} {n b : Nat} (h : PoS p n b) : po p.coefs p.den = p := by
  have t : trim p.coefs = p.coefs := by unfold trim; rw [h.tsz, List.take_length]
  have g : plS p.coefs p.den = 1 := by
    unfold plS
    rw [t, h.cop, if_neg (by have := h.pos; omega)]; rfl
  obtain ⟨xs, d⟩ := p
  show (⟨plC xs d, plD xs d⟩ : Po) = _
  unfold plC plD
  dsimp only at t g
  rw [t, g]
  congr 1
  · conv => rhs; rw [← List.map_id xs]
    exact List.map_congr_left fun x _ => by simp
  · simp
theorem pv_inj {p q : Po} {n b m c : Nat} (h : PoS p n b) (h' : PoS q m c) (e : ∀ k, (pv p).cf k = (pv q).cf k) : p = q := by
  rw [← po_self h, ← po_self h']
  obtain ⟨e1, e2⟩ := pl_canon (xs := p.coefs) (xs' := q.coefs) h.ne' h'.ne' fun k => (rat_div_eq h.ne' h'.ne').mp (e k)
  unfold po
  rw [e1, e2]
theorem pv_Bd {p : Po} {n b : Nat} (h : PoS p n b) : Ps.Bd n (pv p) := fun k hk => by
  show (co p.coefs k : Rat) / p.den = 0
  rw [co_ge (by have := h.len; omega)]
  grind
theorem pv_len {p : Po} {n b m : Nat} (h : PoS p n b) (l : Ps.Bd m (pv p)) : p.coefs.length ≤ m := by
  rcases Nat.lt_or_ge m p.coefs.length with q | q
  · have h0 := l (p.coefs.length - 1) (by omega)
    have h1 := h.last fun e => by rw [e] at q; simp at q
    have : (co p.coefs (p.coefs.length - 1) : Rat) / p.den = 0 := h0
    have h2 := h.ne
    have h3 := ic_ne h1
    grind
  · exact q
theorem PoS.coef {p : Po} {n b : Nat} (h : PoS p n b) (k : Nat) : (co p.coefs k : Rat) = (pv p).cf k * p.den := by
  have := h.ne
  show _ = (co p.coefs k : Rat) / p.den * p.den
  grind
end Pd

set_option maxHeartbeats 2000000
/-! MxE: the operations of polynomials by value and size. -/
namespace Pd
open PySem PySem.Spec L2
theorem lv_cf (xs : List Int) (k : Nat) : (lv xs).cf k = (co xs k : Rat) := rfl
theorem lv_cons (a : Int) (xs : List Int) : lv (a :: xs) = Ps.c (a : Rat) + Ps.X * lv xs := Ps.ext fun k => by
  rw [Ps.add_cf]
  cases k with
  | zero => rw [Ps.X_zero]; show (a : Rat) = a + 0; grind
  | succ k => rw [Ps.X_succ]; show (co xs k : Rat) = 0 + (co xs k : Rat); grind
theorem lv_nil : lv [] = 0 := Ps.ext fun k => by rw [Ps.zero_cf]; show ((co [] k : Int) : Rat) = 0; rw [co_nil]; rfl
theorem lv_Bd {xs : List Int} {n : Nat} (h : xs.length ≤ n) : Ps.Bd n (lv xs) := fun k hk => by
  show ((co xs k : Int) : Rat) = 0
  rw [co_ge (by omega)]; rfl
theorem lv_mul (ys : List Int) : ∀ (xs : List Int) (k : Nat), (lv xs * lv ys).cf k = (mulc xs ys k : Rat)
  | [], k => by
    rw [lv_nil]
    have : (0 : Ps Rat) * lv ys = 0 := by grind
    rw [this, Ps.zero_cf]; rfl
  | a :: xs, k => by
    have e : lv (a :: xs) * lv ys = Ps.c (a : Rat) * lv ys + Ps.X * (lv xs * lv ys) := by rw [lv_cons]; grind
    rw [e, Ps.add_cf, Ps.c_mul]
    cases k with
    | zero =>
      rw [Ps.X_zero]
      show (a : Rat) * (co ys 0 : Rat) + 0 = ((a * co ys 0 + 0 : Int) : Rat)
      rw [Int.add_zero, Rat.intCast_mul]; grind
    | succ k =>
      rw [Ps.X_succ, lv_mul ys xs k]
      show (a : Rat) * (co ys (k + 1) : Rat) + (mulc xs ys k : Rat) = ((a * co ys (k + 1) + mulc xs ys k : Int) : Rat)
      rw [Rat.intCast_add, Rat.intCast_mul]
theorem pv_lv {p : Po} {n b : Nat} (h : PoS p n b) : lv p.coefs = Ps.c (p.den : Rat) * pv p := Ps.ext fun k => by
  rw [Ps.c_mul]
  show (co p.coefs k : Rat) = _
  rw [h.coef k]; grind
theorem mulc_sm {b c : Nat} {ys : List Int} (h2 : ∀ k, Sm (co ys k) c) : ∀ {xs : List Int}, (∀ k, Sm (co xs k) b) → ∀ k, Sm (mulc xs ys k) (b + c + xs.length)
  | [], _, k => Sm.zero (by have := (h2 0).pos; omega)
  | a :: xs, h1, k => by
    have ih := mulc_sm h2 (xs := xs) fun k => h1 (k + 1)
    have h0 : Sm (a * co ys k) (b + c) := (h1 0).mulUp (h2 k) (Nat.le_refl _)
    rw [List.length_cons]
    cases k with
    | zero =>
      show Sm (a * co ys 0 + 0) _
      rw [Int.add_zero]; exact h0.up (by omega)
    | succ k => exact (h0.addUp2 (ih k) (by omega) (by omega))
/-! ### products of lists -/
section
variable {a : Int} {ys zs r0 : List Int} {i j : Nat}
/-- one row of a product is added -/
theorem row_step {r : List Int} (hl : r0.length = r.length) (hr : ∀ k, co r k = co r0 k + (if i ≤ k ∧ k < i + j then a * co ys (k - i) else 0)) (hij : i + j < r.length) :
    (setT r ((i : Int) + (j : Int)) (gt r ((i : Int) + (j : Int)) + a * co ys j)).length = r.length ∧ ∀ k, co (setT r ((i : Int) + (j : Int)) (gt r ((i : Int) + (j : Int)) + a * co ys j)) k = co r0 k + (if i ≤ k ∧ k < i + (j + 1) then a * co ys (k - i) else 0) := by
  have e : (i : Int) + (j : Int) = ((i + j : Nat) : Int) := by omega
  rw [e, setT_nat hij, gt_co]
  refine ⟨by rw [List.length_set], fun k => ?_⟩
  rw [co_set hij, hr (i + j)]
  by_cases h : k = i + j
  · subst h
    rw [if_pos rfl, if_neg (by omega), if_pos (by omega), Nat.add_sub_cancel_left]; omega
  · rw [if_neg h, hr k]
    by_cases h2 : i ≤ k ∧ k < i + j
    · rw [if_pos h2, if_pos (by omega)]
    · rw [if_neg h2, if_neg (by omega)]
end
theorem row_end {a : Int} {ys : List Int} {i : Nat} {x : Int} (k : Nat) : x + (if i ≤ k ∧ k < i + ys.length then a * co ys (k - i) else 0) = x + (if i ≤ k then a * co ys (k - i) else 0) := by
  by_cases h : i ≤ k
  · by_cases h2 : k < i + ys.length
    · rw [if_pos ⟨h, h2⟩, if_pos h]
    · rw [if_neg (by omega), if_pos h, co_ge (by omega)]; omega
  · rw [if_neg (by omega), if_neg h]
theorem take_succ_co {xs : List Int} {i : Nat} (h : i < xs.length) : xs.take (i + 1) = xs.take i ++ [co xs i] := by
  rw [List.take_succ, co_lt h]; rfl
theorem mulc_step {xs ys : List Int} {i : Nat} (h : i < xs.length) (k : Nat) : mulc (xs.take (i + 1)) ys k = mulc (xs.take i) ys k + (if i ≤ k then co xs i * co ys (k - i) else 0) := by
  rw [take_succ_co h, mulc_snoc, List.length_take, Nat.min_eq_left (by omega)]
section
variable {p q : Po} {n b m c : Nat}
theorem mul_spec (hp : PoS p n b) (hq : PoS q m c) (hb : b ≤ 40000000) (hc : c ≤ 40000000) (hn : n ≤ 1000000) (hm : m ≤ 1000000) : v_Poly_mul p q ∧ PoS (q_Poly_mul p q) (n + m - 1) (b + c + n) ∧ pv (q_Poly_mul p q) = pv p * pv q := by
  have ok : ∀ i j, mulOk (co p.coefs i) (co q.coefs j) = true := fun i j => mulOk_sm (hp.c i) (hq.c j) (by omega)
  have l1 := hp.len
  have l2 := hq.len
  have zl : ((rngT 0 ((p.coefs.length : Int) + (q.coefs.length : Int))).map fun (x1 : Int) => (0 : Int)) = List.replicate (p.coefs.length + q.coefs.length) 0 := by
    rw [rng_zeros]; congr 1
  have inner : ∀ (i : Nat) (r0 : List Int), i < p.coefs.length → r0.length = p.coefs.length + q.coefs.length → v_Poly_mul_2 p q r0 (i : Int) (co p.coefs i) ∧ (q_Poly_mul_2 p q r0 (i : Int) (co p.coefs i)).length = r0.length ∧ ∀ k, co (q_Poly_mul_2 p q r0 (i : Int) (co p.coefs i)) k = co r0 k + (if i ≤ k then co p.coefs i * co q.coefs (k - i) else 0) := by
    intro i r0 hi hr0
    have := forV_inv0 (V := fun (s3 : (List Int)) (x4 : Int × Int) => v_Poly_mul_3 p q s3 (i : Int) (co p.coefs i) x4.1 x4.2) (f := fun (s3 : (List Int)) (x4 : Int × Int) => q_Poly_mul_3 p q s3 (i : Int) (co p.coefs i) x4.1 x4.2) (xs := enT q.coefs) (s := r0)
      (fun j r => r0.length = r.length ∧ ∀ k, co r k = co r0 k + (if i ≤ k ∧ k < i + j then co p.coefs i * co q.coefs (k - i) else 0)) ⟨rfl, fun k => by rw [if_neg (by omega)]; omega⟩ fun j x r hx ⟨h1, h2⟩ => by
        obtain ⟨x1, x2⟩ := x
        obtain ⟨e1, e2⟩ := enT_get hx
        dsimp only at e1 e2
        have hj : j < q.coefs.length := (List.getElem?_eq_some_iff.mp e2).1
        rw [co_lt hj] at e2
        have e2 := Option.some.inj e2
        subst e1; subst e2
        obtain ⟨s1, s2⟩ := row_step h1 h2 (by omega : i + j < r.length)
        have iR : inR r ((i : Int) + (j : Int)) := by unfold inR; omega
        exact ⟨⟨iR, ok i j, iR⟩, h1.trans s1.symm, s2⟩
    obtain ⟨v, h1, h2⟩ := this
    refine ⟨v, ?_, fun k => ?_⟩
    · exact h1.symm
    · have := h2 k
      rw [show (enT q.coefs).length = q.coefs.length from enN_length _ _] at this
      rw [← row_end k]; exact this
  have outer := forV_inv0 (V := fun (s7 : (List Int)) (x8 : Int × Int) => v_Poly_mul_2 p q s7 x8.1 x8.2) (f := fun (s7 : (List Int)) (x8 : Int × Int) => q_Poly_mul_2 p q s7 x8.1 x8.2) (xs := enT p.coefs) (s := List.replicate (p.coefs.length + q.coefs.length) 0)
      (fun i r => r.length = p.coefs.length + q.coefs.length ∧ ∀ k, co r k = mulc (p.coefs.take i) q.coefs k) ⟨by simp, fun k => by rw [co_repl]; simp [mulc]⟩ fun i x r hx ⟨h1, h2⟩ => by
        obtain ⟨x1, x2⟩ := x
        obtain ⟨e1, e2⟩ := enT_get hx
        dsimp only at e1 e2
        have hi : i < p.coefs.length := (List.getElem?_eq_some_iff.mp e2).1
        rw [co_lt hi] at e2
        have e2 := Option.some.inj e2
        subst e1; subst e2
        obtain ⟨v, a1, a2⟩ := inner i r hi h1
        refine ⟨v, by show (q_Poly_mul_2 p q r (i : Int) (co p.coefs i)).length = _; omega, fun k => ?_⟩
        rw [mulc_step hi]
        show co (q_Poly_mul_2 p q r (i : Int) (co p.coefs i)) k = _
        rw [a2 k, h2 k]
  rw [show (enT p.coefs).length = p.coefs.length from enN_length _ _, List.take_length] at outer
  obtain ⟨v, h1, h2⟩ := outer
  have hd : p.den * q.den ≠ 0 := Int.mul_ne_zero hp.ne' hq.ne'
  have eq0 : q_Poly_mul p q = q_Poly_init (q_Poly_mul_4 p q (List.replicate (p.coefs.length + q.coefs.length) 0)) (p.den * q.den) := by
    show q_Poly_init (q_Poly_mul_4 p q ((rngT 0 ((p.coefs.length : Int) + (q.coefs.length : Int))).map fun (x1 : Int) => (0 : Int))) (p.den * q.den) = _
    rw [zl]
  have h1' : (q_Poly_mul_4 p q (List.replicate (p.coefs.length + q.coefs.length) 0)).length = p.coefs.length + q.coefs.length := h1
  have h2' : ∀ k, co (q_Poly_mul_4 p q (List.replicate (p.coefs.length + q.coefs.length) 0)) k = mulc p.coefs q.coefs k := h2
  obtain ⟨w, a1, a2⟩ := poly_mk (xs := q_Poly_mul_4 p q (List.replicate (p.coefs.length + q.coefs.length) 0)) (n := n + m) (b := b + c + n) hd (by omega) (by omega) (fun k => by rw [h2' k]; exact (mulc_sm hq.c hp.c k).up (by omega)) (hp.d.mulUp hq.d (by omega))
  have val : pv (q_Poly_mul p q) = pv p * pv q := Ps.ext fun k => by
    rw [eq0, a2 k, h2' k, ← lv_mul, pv_lv hp, pv_lv hq]
    have e : Ps.c (p.den : Rat) * pv p * (Ps.c (q.den : Rat) * pv q) = Ps.c ((p.den : Rat) * (q.den : Rat)) * (pv p * pv q) := by rw [Ps.c_mulc]; grind
    rw [e, Ps.c_mul, Rat.intCast_mul]
    have := hp.ne
    have := hq.ne
    grind
  refine ⟨?_, ?_, val⟩
  · refine ⟨rOk_of (by omega) (by omega), line_le (by rw [rngT_length]; omega), ?_⟩
    rw [zl]
    exact ⟨v, mulOk_sm hp.d hq.d (by omega), w⟩
  · rw [← eq0] at a1
    have := pv_len a1 (val ▸ Ps.Bd.mul (pv_Bd hp) (pv_Bd hq))
    exact ⟨a1.pos, a1.cop, a1.last, this, a1.c, a1.d⟩
theorem neg_spec (hq : PoS q m c) (hm : m ≤ 1000000) : v_Poly_neg q ∧ PoS (q_Poly_neg q) m c ∧ pv (q_Poly_neg q) = -pv q := by
  have hl := hq.len
  obtain ⟨w, a1, a2⟩ := poly_mk (xs := q.coefs.map fun (x1 : Int) => (-x1)) (d := q.den) (n := m) (b := c) hq.ne' (by rw [List.length_map]; exact hl) (by omega) (fun k => by rw [co_map (fun x => -x) (by simp)]; exact (hq.c k).negUp) hq.d
  refine ⟨⟨line_le (by omega), w⟩, a1, Ps.ext fun k => ?_⟩
  show (pv (q_Poly_init (q.coefs.map fun (x1 : Int) => (-x1)) q.den)).cf k = _
  rw [a2 k, co_map (fun x => -x) (by simp), Ps.neg_cf, Rat.intCast_neg]
  show -(co q.coefs k : Rat) / q.den = -((co q.coefs k : Rat) / q.den)
  grind
theorem zip_co {xs ys : List Int} (h : xs.length = ys.length) (f : Int × Int → Int) (h0 : f (0, 0) = 0) (k : Nat) : co ((xs.zip ys).map f) k = f (co xs k, co ys k) := by
  by_cases hk : k < xs.length
  · have h1 := co_lt hk
    have h2 := co_lt (xs := ys) (k := k) (by omega)
    have h3 := co_lt (xs := (xs.zip ys).map f) (k := k) (by rw [List.length_map, List.length_zip]; omega)
    rw [List.getElem?_map, List.getElem?_zip_eq_some (z := (co xs k, co ys k)) |>.mpr ⟨h1, h2⟩] at h3
    exact (Option.some.inj h3).symm
  · rw [co_ge (by rw [List.length_map, List.length_zip]; omega), co_ge (by omega), co_ge (by omega), h0]
theorem add_spec (hp : PoS p n b) (hq : PoS q m c) (hb : b ≤ 40000000) (hc : c ≤ 40000000) (hn : n ≤ 1000000) (hm : m ≤ 1000000) : v_Poly_add p q ∧ PoS (q_Poly_add p q) (max n m) (b + c + 1) ∧ pv (q_Poly_add p q) = pv p + pv q := by
  have l1 := hp.len
  have l2 := hq.len
  have e1 : ∀ s : Int, s = max (p.coefs.length : Int) (q.coefs.length : Int) → repT ([(0 : Int)]) (s - (p.coefs.length : Int)) = List.replicate (max p.coefs.length q.coefs.length - p.coefs.length) 0 := fun s hs => by
    rw [rep_one]; congr 1; omega
  have e2 : ∀ s : Int, s = max (p.coefs.length : Int) (q.coefs.length : Int) → repT ([(0 : Int)]) (s - (q.coefs.length : Int)) = List.replicate (max p.coefs.length q.coefs.length - q.coefs.length) 0 := fun s hs => by
    rw [rep_one]; congr 1; omega
  have hd : p.den * q.den ≠ 0 := Int.mul_ne_zero hp.ne' hq.ne'
  have el : (p.coefs ++ List.replicate (max p.coefs.length q.coefs.length - p.coefs.length) 0).length = (q.coefs ++ List.replicate (max p.coefs.length q.coefs.length - q.coefs.length) 0).length := by simp; omega
  have hz : ∀ k, co (((p.coefs ++ List.replicate (max p.coefs.length q.coefs.length - p.coefs.length) 0).zip (q.coefs ++ List.replicate (max p.coefs.length q.coefs.length - q.coefs.length) 0)).map fun (x1 : Int × Int) => ((x1.1 * q.den) + (x1.2 * p.den))) k = co p.coefs k * q.den + co q.coefs k * p.den := fun k => by
    rw [zip_co el _ (by simp), co_pad, co_pad]
  obtain ⟨w, a1, a2⟩ := poly_mk (xs := (((p.coefs ++ List.replicate (max p.coefs.length q.coefs.length - p.coefs.length) 0).zip (q.coefs ++ List.replicate (max p.coefs.length q.coefs.length - q.coefs.length) 0)).map fun (x1 : Int × Int) => ((x1.1 * q.den) + (x1.2 * p.den)))) (n := max n m) (b := b + c + 1) hd (by simp; omega) (by omega) (fun k => by
    rw [hz k]
    exact ((hp.c k).mulUp hq.d (Nat.le_refl _)).addUp2 ((hq.c k).mulUp hp.d (Nat.le_refl _)) (by omega) (by omega)) (hp.d.mulUp hq.d (by omega))
  have eq0 : q_Poly_add p q = q_Poly_init (((p.coefs ++ List.replicate (max p.coefs.length q.coefs.length - p.coefs.length) 0).zip (q.coefs ++ List.replicate (max p.coefs.length q.coefs.length - q.coefs.length) 0)).map fun (x1 : Int × Int) => ((x1.1 * q.den) + (x1.2 * p.den))) (p.den * q.den) := by
    rw [← e1 _ rfl, ← e2 _ rfl]; rfl
  refine ⟨?_, by rw [eq0]; exact a1, Ps.ext fun k => ?_⟩
  · refine ⟨by omega, by rw [List.length_singleton]; exact line_le (by omega), ?_, by omega, by rw [List.length_singleton]; exact line_le (by omega), ?_, ?_⟩
    · rw [e1 _ rfl, List.length_replicate]; exact line_le (by omega)
    · rw [e2 _ rfl, List.length_replicate]; exact line_le (by omega)
    · rw [e1 _ rfl, e2 _ rfl]
      refine ⟨fun x hx => ?_, line_le (by rw [List.length_zip]; simp; omega), mulOk_sm hp.d hq.d (by omega), w⟩
      obtain ⟨i, hi⟩ := List.getElem?_of_mem hx
      obtain ⟨x1, x2⟩ := x
      obtain ⟨h1, h2⟩ := List.getElem?_zip_eq_some.mp hi
      dsimp only at h1 h2
      have c1 := co_pad p.coefs (max p.coefs.length q.coefs.length - p.coefs.length) i
      have c2 := co_pad q.coefs (max p.coefs.length q.coefs.length - q.coefs.length) i
      have d1 := co_lt (List.getElem?_eq_some_iff.mp h1).1
      have d2 := co_lt (List.getElem?_eq_some_iff.mp h2).1
      rw [h1] at d1
      rw [h2] at d2
      have d1 := Option.some.inj d1
      have d2 := Option.some.inj d2
      rw [c1] at d1
      rw [c2] at d2
      subst d1; subst d2
      exact ⟨mulOk_sm (hp.c i) hq.d (by omega), mulOk_sm (hq.c i) hp.d (by omega)⟩
  · rw [eq0, a2 k, hz k, Ps.add_cf, Rat.intCast_add, Rat.intCast_mul, Rat.intCast_mul, Rat.intCast_mul]
    show _ = (co p.coefs k : Rat) / p.den + (co q.coefs k : Rat) / q.den
    have := hp.ne
    have := hq.ne
    grind
theorem sub_spec (hp : PoS p n b) (hq : PoS q m c) (hb : b ≤ 40000000) (hc : c ≤ 40000000) (hn : n ≤ 1000000) (hm : m ≤ 1000000) : v_Poly_sub p q ∧ PoS (q_Poly_sub p q) (max n m) (b + c + 1) ∧ pv (q_Poly_sub p q) = pv p - pv q := by
  obtain ⟨v, s, e⟩ := neg_spec hq hm
  obtain ⟨v', s', e'⟩ := add_spec hp s hb hc hn hm
  refine ⟨⟨v, v'⟩, s', ?_⟩
  show pv (q_Poly_add p (q_Poly_neg q)) = _
  rw [e', e]; grind
end
end Pd

set_option maxHeartbeats 2000000
/-! MxF: the laws' own functions: drawn numbers, coefficients, the test of a polynomial, sums and products of lists. -/
namespace Pd
open PySem PySem.Spec L2
def Drawn (xs : List Int) (n : Nat) : Prop := xs.length = n ∧ ∀ x ∈ xs, 0 ≤ x ∧ x < 1000000
theorem Drawn.app {xs : List Int} {n : Nat} {z : Int} (h : Drawn xs n) (h0 : 0 ≤ z ∧ z < 1000000) : Drawn (xs ++ [z]) (n + 1) := ⟨by simp [h.1], fun x hx => by
  rcases List.mem_append.mp hx with k | k
  · exact h.2 x k
  · rw [List.mem_singleton.mp k]; exact h0⟩
theorem Drawn.co {xs : List Int} {n : Nat} (h : Drawn xs n) (k : Nat) : 0 ≤ co xs k ∧ co xs k < 1000000 := by
  by_cases hk : k < xs.length
  · exact h.2 _ (List.mem_of_getElem? (co_lt hk))
  · rw [co_ge (by omega)]; omega
theorem Drawn.at {xs : List Int} {n : Nat} (h : Drawn xs n) {i : Int} (h0 : 0 ≤ i) (h1 : i < n) : inR xs i ∧ ∃ x : Int, gt xs i = x ∧ 0 ≤ x ∧ x < 1000000 := by
  obtain ⟨k, rfl⟩ := Int.eq_ofNat_of_zero_le h0
  refine ⟨inR_nat (by have := h.1; omega), _, gt_co xs k, h.co k⟩
theorem gt_mem {xs : List Int} {i : Int} (h : inR xs i) : gt xs i ∈ xs := by
  obtain ⟨j, h1, h2⟩ := inR_ix h
  unfold gt atI
  rw [h1]
  show (xs[j]?).getD default ∈ xs
  rw [List.getElem?_eq_getElem h2]
  exact List.getElem_mem h2
theorem numbers_spec {ns : List Int} (hl : ns.length ≤ 63) (hb : ∀ z ∈ ns, Builtin.Int.intBits z ≤ 1048576) (n : Nat) (hn : n ≤ 1000) : v_law_numbers ns (n : Int) ∧ Drawn (q_law_numbers ns (n : Int)) n := by
  have hr : inR ns 0 ∨ ¬ (ns.length : Int) > 0 := by unfold inR; omega
  have main : ∀ (rest : Int) (byd : Bool), forV (fun (s5 : Int × (List Int)) (x6 : Int) => v_law_numbers_7 ns s5.1 byd s5.2 x6) (fun (s5 : Int × (List Int)) (x6 : Int) => q_law_numbers_7 ns s5.1 byd s5.2 x6) (rngT 0 (n : Int)) (rest, []) ∧ Drawn ((rngT 0 (n : Int)).foldl (fun (s5 : Int × (List Int)) (x6 : Int) => q_law_numbers_7 ns s5.1 byd s5.2 x6) (rest, [])).2 (rngT 0 (n : Int)).length := by
    intro rest byd
    refine forV_inv0 (V := fun (s5 : Int × (List Int)) (x6 : Int) => v_law_numbers_7 ns s5.1 byd s5.2 x6) (f := fun (s5 : Int × (List Int)) (x6 : Int) => q_law_numbers_7 ns s5.1 byd s5.2 x6) (fun i s => Drawn s.2 i) ⟨rfl, fun x hx => nomatch hx⟩ fun i x s hx hs => ?_
    obtain ⟨r, xs⟩ := s
    obtain ⟨hi, e⟩ := rngT0_get hx
    subst e
    have hln : xs.length < LINE := line_lt (by have := hs.1; dsimp only at this; omega)
    show v_law_numbers_7 ns r byd xs i ∧ Drawn (q_law_numbers_7 ns r byd xs i).2 (i + 1)
    unfold v_law_numbers_7 q_law_numbers_7
    by_cases hc : (byd && decide (r > 0)) = true
    · rw [if_pos hc]
      refine ⟨⟨fun _ => hln, fun h => by rw [hc] at h; cases h⟩, ?_⟩
      exact hs.app (fmod_pos (by decide))
    · rw [if_neg hc]
      have cell : ∃ z : Int, q_law_numbers_13 ns r byd xs i 13 = z ∧ mulOk z 48271 = true ∧ ((decide ((ns.length : Int) > 0)) = true → v_law_numbers_12 ns r byd xs i 13) := by
        by_cases hp : (ns.length : Int) > 0
        · obtain ⟨m0, m1⟩ := fmod_pos (i := (i : Int)) (j := ns.length) hp
          have ir : inR ns ((i : Int).fmod ns.length) := inR_i m0 m1
          refine ⟨_, ?_, cell_ok hb (gt_mem ir) (i := i) (by omega), fun _ => ⟨by omega, ir, mulOk_of 30 30 (by decide) (by omega)⟩⟩
          show (if decide ((ns.length : Int) > 0) = true then _ else _) = _
          rw [if_pos (decide_eq_true hp)]; rfl
        · refine ⟨13, ?_, mulOk_of 10 20 (by decide) (by decide), fun h => absurd (of_decide_eq_true h) hp⟩
          show (if decide ((ns.length : Int) > 0) = true then _ else _) = _
          rw [if_neg (by simpa using hp)]
      obtain ⟨z, ez, hz, hv⟩ := cell
      refine ⟨⟨fun h => absurd h hc, fun _ => ⟨hv, ?_⟩⟩, ?_⟩
      · rw [ez]
        have g1 := fmod_pos (i := z * 48271) (j := 2147483647) (by decide)
        exact ⟨hz, mulOk_of 40 20 (by omega) (by decide), hln⟩
      · show Drawn (xs ++ [((((q_law_numbers_13 ns r byd xs i 13) * 48271).fmod 2147483647 * 69621).fmod 2147483629).fmod 1000000]) (i + 1)
        exact hs.app (fmod_pos (by decide))
  rw [rngT0_length] at main
  constructor
  · refine ⟨fun h => ?_, rOk_nat (by omega), (main _ _).1⟩
    have := of_decide_eq_true h
    show inR ns 0
    unfold inR; omega
  · exact (main _ _).2
/-! ### whole numbers in the ring of series -/
abbrev ci (e : Int) : Ps Rat := Ps.c (e : Rat)
theorem ci_mul (a b : Int) : ci (a * b) = ci a * ci b := by unfold ci; rw [Rat.intCast_mul, Ps.c_mulc]
theorem ci_neg (a : Int) : ci (-a) = -ci a := by unfold ci; rw [Rat.intCast_neg, Ps.c_neg]
theorem ci_add (a b : Int) : ci (a + b) = ci a + ci b := by unfold ci; rw [Rat.intCast_add, Ps.c_add]
theorem ci_one : ci 1 = 1 := rfl
theorem ci_zero : ci 0 = 0 := rfl
theorem ci_can {e : Int} {f g : Ps Rat} (he : e ≠ 0) (h : ci e * f = ci e * g) : f = g := Ps.ext fun k => by
  have h1 : (ci e * f).cf k = (ci e * g).cf k := by rw [h]
  rw [Ps.c_mul, Ps.c_mul] at h1
  have := ic_ne he
  grind
/-! ### lists of numbers by size -/
structure LS (xs : List Int) (n b : Nat) : Prop where
  len : xs.length ≤ n
  c : ∀ k, Sm (co xs k) b
theorem LS.up {xs : List Int} {n b m c : Nat} (h : LS xs n b) (l : n ≤ m) (l' : b ≤ c) : LS xs m c := ⟨by have := h.len; omega, fun k => (h.c k).up l'⟩
theorem LS.nil {b : Nat} (h : 0 < b) : LS [] 0 b := ⟨Nat.le_refl _, fun k => by rw [co_nil]; exact Sm.zero h⟩
theorem LS.app {xs : List Int} {n b : Nat} {z : Int} (h : LS xs n b) (hz : Sm z b) : LS (xs ++ [z]) (n + 1) b := ⟨by have := h.len; simp; omega, fun k => by
  rw [co_app]
  split
  · exact h.c k
  · by_cases e : k - xs.length = 0
    · rw [e]; exact hz
    · rw [co_ge (by simp; omega)]; exact Sm.zero (h.c 0).pos⟩
theorem LS.mem {xs : List Int} {n b : Nat} (h : LS xs n b) {x : Int} (hx : x ∈ xs) : Sm x b := by
  obtain ⟨i, hi⟩ := List.getElem?_of_mem hx
  have := co_lt (List.getElem?_eq_some_iff.mp hi).1
  rw [hi] at this
  rw [Option.some.inj this]
  exact h.c i
theorem LS.po {xs : List Int} {n b : Nat} {d : Int} (h : LS xs n b) (hd : d ≠ 0) (hn : n ≤ 10000000) (h2 : Sm d b) : v_Poly_init xs d ∧ PoS (q_Poly_init xs d) n b ∧ lv xs = ci d * pv (q_Poly_init xs d) := by
  obtain ⟨v, s, e⟩ := poly_mk hd h.len hn h.c h2
  refine ⟨v, s, Ps.ext fun k => ?_⟩
  have := ic_ne hd
  rw [Ps.c_mul, e k, lv_cf]
  grind
theorem PoS.ls {p : Po} {n b : Nat} (h : PoS p n b) : LS p.coefs n b := ⟨h.len, h.c⟩
/-- the numbers are within a size, all of them from a list -/
theorem coefs_spec {L : List Int} {m : Nat} (hL : Drawn L m) {st : Nat} {size : Nat} (h : st + size ≤ m) (hm : m ≤ 1000) : v_law_coefs L (st : Int) (size : Int) ∧ LS (q_law_coefs L (st : Int) (size : Int)) size 4 := by
  have := forV_inv0 (V := fun (s2 : (List Int)) (x3 : Int) => v_law_coefs_2 L (st : Int) s2 x3) (f := fun (s2 : (List Int)) (x3 : Int) => q_law_coefs_2 L (st : Int) s2 x3) (xs := rngT 0 (size : Int)) (s := [])
    (fun i xs => LS xs i 4) (LS.nil (by decide)) fun i x xs hx hs => by
      obtain ⟨hi, e⟩ := rngT0_get hx
      subst e
      have hln : xs.length < LINE := line_lt (by have := hs.len; omega)
      obtain ⟨ir, z, hz, z0, z1⟩ := hL.at (i := (st : Int) + i) (by omega) (by omega)
      refine ⟨⟨ir, fun _ => hln, fun _ => hln⟩, ?_⟩
      show LS (q_law_coefs_2 L (st : Int) xs i) (i + 1) 4
      unfold q_law_coefs_2
      rw [hz]
      unfold q_law_coefs_3
      split
      · exact hs.app (Sm.zero (by decide))
      · have g := fmod_pos (i := z.fdiv 4) (j := 25) (by decide)
        exact hs.app (sm_range (-12) 12 (by omega) (by omega) (by decide) (by decide) (by decide))
  rw [rngT0_length] at this
  obtain ⟨v, e⟩ := this
  exact ⟨⟨rOk_nat (by omega), v⟩, e⟩
theorem coefs_len {L : List Int} {m : Nat} (hL : Drawn L m) {st : Nat} {size : Nat} (h : st + size ≤ m) (hm : m ≤ 1000) : (q_law_coefs L (st : Int) (size : Int)).length = size := by
  have := fold_inv0 (f := fun (s2 : (List Int)) (x3 : Int) => q_law_coefs_2 L (st : Int) s2 x3) (xs := rngT 0 (size : Int)) (s := ([] : List Int))
    (fun i xs => xs.length = i) rfl fun i x xs hx hs => by
      show (q_law_coefs_2 L (st : Int) xs x).length = i + 1
      unfold q_law_coefs_2 q_law_coefs_3
      split
      · show (xs ++ [(0 : Int)]).length = _; simp; exact hs
      · show (xs ++ [_]).length = _; simp; exact hs
  rw [rngT0_length] at this
  exact this
/-! ### the test of a polynomial -/
theorem lawPolyIs_spec {p : Po} {zs : List Int} {e : Int} {n b m c : Nat} (hp : PoS p n b) (hz : LS zs m c) (he : Sm e c) (he0 : e ≠ 0) (hb : b ≤ 40000000) (hc : c ≤ 40000000) (hn : n ≤ 1000000) (hm : m ≤ 1000000) (h : ∀ k, (pv p).cf k = (co zs k : Rat) / (e : Rat)) : v_law_poly_is p zs e ∧ q_law_poly_is p zs e = true := by
  have l1 := hp.len
  have l2 := hz.len
  have h' : ∀ k, co p.coefs k * e = co zs k * p.den := fun k => (rat_div_eq hp.ne' he0).mp (h k)
  have c1 : (!true || (!true || (!q_law_is_integer p.den || decide (p.den < 1)))) = false := by
    have := hp.pos
    rw [is_integer]; simp; omega
  -- the greatest common divisor
  obtain ⟨w1, s, e1, hs⟩ := forX_inv0 (τ := Empty) (V := fun (s6 : Int) (x7 : Int) => v_law_poly_is_4 p zs e s6 x7) (f := fun (s6 : Int) (x7 : Int) => q_law_poly_is_4 p zs e s6 x7) (xs := p.coefs) (s := p.den)
    (fun i s => s = ((Nat.gcd (cont (p.coefs.take i)) p.den.natAbs : Nat) : Int)) (by
      have := hp.pos
      show p.den = ((Nat.gcd 0 p.den.natAbs : Nat) : Int)
      rw [Nat.gcd_zero_left]; omega) fun i x s hx hs => by
      obtain ⟨v, e3⟩ := divisor_spec s x
      have hi : i < p.coefs.length := (List.getElem?_eq_some_iff.mp hx).1
      rw [co_lt hi] at hx
      have hx := Option.some.inj hx
      refine ⟨fun _ => v, q_law_divisor s x, ?_, ?_⟩
      · show (if (!(q_law_is_integer x)) = true then Fl.rt q_law_poly_is_5 else Fl.nx (q_law_divisor s x)) = _
        rw [is_integer]; rfl
      · rw [e3, hs, take_succ_co hi]
        have : cont (p.coefs.take i ++ [co p.coefs i]) = Nat.gcd (cont (p.coefs.take i)) (co p.coefs i).natAbs := by
          unfold cont
          rw [List.foldl_append]; rfl
        rw [this, ← hx]
        show ((Nat.gcd (Nat.gcd (cont (p.coefs.take i)) p.den.natAbs) (co p.coefs i).natAbs : Nat) : Int) = _
        rw [Nat.gcd_assoc, Nat.gcd_assoc, Nat.gcd_comm p.den.natAbs]
  rw [List.take_length, hp.cop] at hs
  subst hs
  have c2 : (!decide (((1 : Nat) : Int) = (1 : Int)) || ((decide ((p.coefs.length : Int) > (0 : Int))) && (decide ((gt p.coefs (-(1 : Int))) = (0 : Int))))) = false := by
    by_cases h0 : p.coefs.length = 0
    · rw [h0]; rfl
    · have hl := hp.last fun z => h0 (by rw [z]; rfl)
      have hg : gt p.coefs (-(1 : Int)) = co p.coefs (p.coefs.length - 1) := by
        rw [show (-(1 : Int)) = -1 from rfl, gt_neg (by omega)]
        have := co_lt (xs := p.coefs) (k := p.coefs.length - 1) (by omega)
        rw [List.getElem?_eq_getElem (by omega)] at this
        exact Option.some.inj this
      rw [hg, decide_eq_false hl, Bool.and_false]; rfl
  have z1 : ((rngT 0 ((max (p.coefs.length : Int) (zs.length : Int)) - (p.coefs.length : Int))).map fun (x13 : Int) => (0 : Int)) = List.replicate (max p.coefs.length zs.length - p.coefs.length) 0 := by
    rw [rng_zeros]; congr 1; omega
  have z2 : ((rngT 0 ((max (p.coefs.length : Int) (zs.length : Int)) - (zs.length : Int))).map fun (x13 : Int) => (0 : Int)) = List.replicate (max p.coefs.length zs.length - zs.length) 0 := by
    rw [rng_zeros]; congr 1; omega
  obtain ⟨w2, e2⟩ := forX_all (τ := Empty) (V := fun (s18 : Unit) (x19 : Int) => v_law_poly_is_14 p e (p.coefs ++ List.replicate (max p.coefs.length zs.length - p.coefs.length) 0) x19 (zs ++ List.replicate (max p.coefs.length zs.length - zs.length) 0)) (f := fun (s18 : Unit) (x19 : Int) => q_law_poly_is_14 p e (p.coefs ++ List.replicate (max p.coefs.length zs.length - p.coefs.length) 0) x19 (zs ++ List.replicate (max p.coefs.length zs.length - zs.length) 0)) (xs := rngT 0 (max (p.coefs.length : Int) (zs.length : Int))) fun i x hx => by
      have : max (p.coefs.length : Int) (zs.length : Int) = ((max p.coefs.length zs.length : Nat) : Int) := by omega
      rw [this] at hx
      obtain ⟨hi, e3⟩ := rngT0_get hx
      subst e3
      constructor
      · refine ⟨inR_nat (by simp; omega), ?_, inR_nat (by simp; omega), ?_⟩
        · rw [gt_co, co_pad]; exact mulOk_sm (hp.c i) he (by omega)
        · rw [gt_co, co_pad]; exact mulOk_sm (hz.c i) hp.d (by omega)
      · show (if (!decide (_ = _)) = true then Fl.rt q_law_poly_is_15 else Fl.nx ()) = _
        rw [gt_co, co_pad, gt_co, co_pad, decide_eq_true (h' i)]; rfl
  have E13 : q_law_poly_is_10 p zs e = true := by
    show ((forX (fun (s18 : Unit) (x19 : Int) => q_law_poly_is_14 p e _ x19 _) (rngT 0 (max (p.coefs.length : Int) (zs.length : Int))) () : Fl Unit Empty Bool).fin fun s21 => q_law_poly_is_17) = true
    rw [z1, z2, e2]; rfl
  have V10 : v_law_poly_is_10 p zs e := by
    refine ⟨rOk_of (by omega) (by omega), line_le (by rw [rngT_length]; omega), by simp only [z1]; exact line_le (by simp; omega), rOk_of (by omega) (by omega), line_le (by rw [rngT_length]; omega), by simp only [z2]; exact line_le (by simp; omega), rOk_of (by omega) (by omega), ?_⟩
    rw [z1, z2]; exact w2
  constructor
  · intro _
    refine ⟨w1, fun s9 h9 => ?_⟩
    have : s9 = ((1 : Nat) : Int) := by
      have h9' : (forX (fun (s6 : Int) (x7 : Int) => q_law_poly_is_4 p zs e s6 x7) p.coefs p.den : Fl Int Empty Bool) = .nx s9 := h9
      rw [e1] at h9'
      injection h9' with h9'; exact h9'.symm
    subst this
    refine ⟨fun _ h2 => by have := of_decide_eq_true h2; exact inR_neg (by omega), fun _ => V10⟩
  · show (if (!true || (!true || (!q_law_is_integer p.den || decide (p.den < 1)))) = true then q_law_poly_is_1 else (forX (fun (s6 : Int) (x7 : Int) => q_law_poly_is_4 p zs e s6 x7) p.coefs p.den : Fl Int Empty Bool).fin fun s9 => q_law_poly_is_8 p zs e s9) = true
    rw [if_neg (by rw [c1]; decide), e1]
    show (if (!decide (((1 : Nat) : Int) = (1 : Int)) || ((decide ((p.coefs.length : Int) > (0 : Int))) && (decide ((gt p.coefs (-(1 : Int))) = (0 : Int))))) = true then q_law_poly_is_9 else q_law_poly_is_10 p zs e) = true
    rw [if_neg (by rw [c2]; decide), E13]
theorem lawPolyIs_r {p : Po} {zs : List Int} {e : Int} {n b m c : Nat} (hp : PoS p n b) (hz : LS zs m c) (he : Sm e c) (he0 : e ≠ 0) (hb : b ≤ 40000000) (hc : c ≤ 40000000) (hn : n ≤ 1000000) (hm : m ≤ 1000000) (h : lv zs = ci e * pv p) : v_law_poly_is p zs e ∧ q_law_poly_is p zs e = true :=
  lawPolyIs_spec hp hz he he0 hb hc hn hm fun k => by
    have h1 : (lv zs).cf k = (ci e * pv p).cf k := by rw [h]
    rw [Ps.c_mul, lv_cf] at h1
    have := ic_ne he0
    grind
/-! ### sums and products of lists -/
section
variable {xs ys : List Int} {n b m c : Nat}
theorem product_spec (hp : LS xs n b) (hq : LS ys m c) (hb : b ≤ 40000000) (hc : c ≤ 40000000) (hn : n ≤ 1000000) (hm : m ≤ 1000000) : v_law_product xs ys ∧ LS (q_law_product xs ys) (n + m) (b + c + n) ∧ lv (q_law_product xs ys) = lv xs * lv ys := by
  have ok : ∀ i j, mulOk (co xs i) (co ys j) = true := fun i j => mulOk_sm (hp.c i) (hq.c j) (by omega)
  have l1 := hp.len
  have l2 := hq.len
  have zl : ((rngT 0 ((xs.length : Int) + (ys.length : Int))).map fun (x1 : Int) => (0 : Int)) = List.replicate (xs.length + ys.length) 0 := by
    rw [rng_zeros]; congr 1
  have inner : ∀ (i : Nat) (r0 : List Int), i < xs.length → r0.length = xs.length + ys.length → v_law_product_2 xs ys r0 (i : Int) ∧ (q_law_product_2 xs ys r0 (i : Int)).length = r0.length ∧ ∀ k, co (q_law_product_2 xs ys r0 (i : Int)) k = co r0 k + (if i ≤ k then co xs i * co ys (k - i) else 0) := by
    intro i r0 hi hr0
    have := forV_inv0 (V := fun (s3 : (List Int)) (x4 : Int) => v_law_product_3 xs ys s3 (i : Int) x4) (f := fun (s3 : (List Int)) (x4 : Int) => q_law_product_3 xs ys s3 (i : Int) x4) (xs := rngT 0 (ys.length : Int)) (s := r0)
      (fun j r => r0.length = r.length ∧ ∀ k, co r k = co r0 k + (if i ≤ k ∧ k < i + j then co xs i * co ys (k - i) else 0)) ⟨rfl, fun k => by rw [if_neg (by omega)]; omega⟩ fun j x r hx ⟨h1, h2⟩ => by
        obtain ⟨hj, e⟩ := rngT0_get hx
        subst e
        obtain ⟨s1, s2⟩ := row_step h1 h2 (by omega : i + j < r.length)
        have iR : inR r ((i : Int) + (j : Int)) := by unfold inR; omega
        have k1 : gt xs (i : Int) = co xs i := gt_co _ _
        have k2 : gt ys (j : Int) = co ys j := gt_co _ _
        have e : q_law_product_3 xs ys r (i : Int) (j : Int) = setT r ((i : Int) + (j : Int)) (gt r ((i : Int) + (j : Int)) + co xs i * co ys j) := by unfold q_law_product_3; rw [k1, k2]
        refine ⟨⟨iR, inR_nat hi, inR_nat hj, by rw [k1, k2]; exact ok i j, iR⟩, ?_⟩
        show r0.length = (q_law_product_3 xs ys r (i : Int) (j : Int)).length ∧ ∀ k, co (q_law_product_3 xs ys r (i : Int) (j : Int)) k = _
        rw [e]
        exact ⟨h1.trans s1.symm, s2⟩
    obtain ⟨v, h1, h2⟩ := this
    refine ⟨⟨rOk_nat (by omega), v⟩, h1.symm, fun k => ?_⟩
    have := h2 k
    rw [rngT0_length] at this
    rw [← row_end k]; exact this
  have outer := forV_inv0 (V := fun (s7 : (List Int)) (x8 : Int) => v_law_product_2 xs ys s7 x8) (f := fun (s7 : (List Int)) (x8 : Int) => q_law_product_2 xs ys s7 x8) (xs := rngT 0 (xs.length : Int)) (s := List.replicate (xs.length + ys.length) 0)
      (fun i r => r.length = xs.length + ys.length ∧ ∀ k, co r k = mulc (xs.take i) ys k) ⟨by simp, fun k => by rw [co_repl]; simp [mulc]⟩ fun i x r hx ⟨h1, h2⟩ => by
        obtain ⟨hi, e⟩ := rngT0_get hx
        subst e
        obtain ⟨v, a1, a2⟩ := inner i r hi h1
        refine ⟨v, a1.trans h1, fun k => ?_⟩
        rw [mulc_step hi]
        show co (q_law_product_2 xs ys r (i : Int)) k = _
        rw [a2 k, h2 k]
  rw [rngT0_length, List.take_length] at outer
  obtain ⟨v, h1, h2⟩ := outer
  have eq0 : q_law_product xs ys = (rngT 0 (xs.length : Int)).foldl (fun (s7 : (List Int)) (x8 : Int) => q_law_product_2 xs ys s7 x8) (List.replicate (xs.length + ys.length) 0) := by
    show (rngT 0 (xs.length : Int)).foldl (fun (s7 : (List Int)) (x8 : Int) => q_law_product_2 xs ys s7 x8) ((rngT 0 ((xs.length : Int) + (ys.length : Int))).map fun (x1 : Int) => (0 : Int)) = _
    rw [zl]
  refine ⟨⟨rOk_of (by omega) (by omega), line_le (by rw [rngT_length]; omega), rOk_nat (by omega), ?_⟩, ⟨by rw [eq0, h1]; omega, fun k => by rw [eq0, h2 k]; exact (mulc_sm hq.c hp.c k).up (by omega)⟩, Ps.ext fun k => ?_⟩
  · rw [zl]; exact v
  · rw [lv_cf, eq0, h2 k, lv_mul]
theorem add_loop {r0 : List Int} {f : Int} {zs : List Int} (hl : zs.length ≤ r0.length) : ∀ j, j ≤ zs.length → ∀ r, (r.length = r0.length ∧ ∀ k, co r k = co r0 k + (if k < j then f * co zs k else 0)) → j < zs.length → (setT r (j : Int) (gt r (j : Int) + f * gt zs (j : Int))).length = r0.length ∧ ∀ k, co (setT r (j : Int) (gt r (j : Int) + f * gt zs (j : Int))) k = co r0 k + (if k < j + 1 then f * co zs k else 0) := by
  intro j hj r ⟨h1, h2⟩ hj'
  rw [setT_nat (by omega), gt_co, gt_co]
  refine ⟨by rw [List.length_set, h1], fun k => ?_⟩
  rw [co_set (by omega), h2 j]
  by_cases e : k = j
  · subst e
    rw [if_pos rfl, if_neg (by omega), if_pos (by omega)]; omega
  · rw [if_neg e, h2 k]
    by_cases l : k < j
    · rw [if_pos l, if_pos (by omega)]
    · rw [if_neg l, if_neg (by omega)]
theorem sum_spec {fa fb : Int} (hp : LS xs n b) (hq : LS ys m c) (h1 : Sm fa c) (h2 : Sm fb b) (hb : b ≤ 40000000) (hc : c ≤ 40000000) (hn : n ≤ 1000000) (hm : m ≤ 1000000) : v_law_sum xs ys fa fb ∧ LS (q_law_sum xs ys fa fb) (max n m) (b + c + 1) ∧ lv (q_law_sum xs ys fa fb) = ci fa * lv xs + ci fb * lv ys := by
  have l1 := hp.len
  have l2 := hq.len
  have zl : ((rngT 0 (max (xs.length : Int) (ys.length : Int))).map fun (x1 : Int) => (0 : Int)) = List.replicate (max xs.length ys.length) 0 := by
    rw [rng_zeros]; congr 1; omega
  have lp1 := forV_inv0 (V := fun (s3 : (List Int)) (x4 : Int) => v_law_sum_3 xs ys fa fb s3 x4) (f := fun (s3 : (List Int)) (x4 : Int) => q_law_sum_3 xs ys fa fb s3 x4) (xs := rngT 0 (xs.length : Int)) (s := List.replicate (max xs.length ys.length) 0)
    (fun j r => r.length = (List.replicate (max xs.length ys.length) (0 : Int)).length ∧ ∀ k, co r k = co (List.replicate (max xs.length ys.length) 0) k + (if k < j then fa * co xs k else 0)) ⟨rfl, fun k => by rw [if_neg (by omega)]; omega⟩ fun j x r hx hr => by
      obtain ⟨hj, e⟩ := rngT0_get hx
      subst e
      have hrl := hr.1
      rw [List.length_replicate] at hrl
      have ir : inR r (j : Int) := inR_nat (by omega)
      exact ⟨⟨ir, inR_nat hj, by rw [gt_co]; exact mulOk_sm h1 (hp.c j) (by omega), ir⟩, add_loop (by simp; omega) j (by omega) r hr hj⟩
  rw [rngT0_length] at lp1
  obtain ⟨v1, a1, a2⟩ := lp1
  have lp2 := forV_inv0 (V := fun (s6 : (List Int)) (x7 : Int) => v_law_sum_6 ys fb s6 x7) (f := fun (s6 : (List Int)) (x7 : Int) => q_law_sum_6 ys fb s6 x7) (xs := rngT 0 (ys.length : Int)) (s := q_law_sum_4 xs ys fa fb (List.replicate (max xs.length ys.length) 0))
    (fun j r => r.length = (q_law_sum_4 xs ys fa fb (List.replicate (max xs.length ys.length) 0)).length ∧ ∀ k, co r k = co (q_law_sum_4 xs ys fa fb (List.replicate (max xs.length ys.length) 0)) k + (if k < j then fb * co ys k else 0)) ⟨rfl, fun k => by rw [if_neg (by omega)]; omega⟩ fun j x r hx hr => by
      obtain ⟨hj, e⟩ := rngT0_get hx
      subst e
      have hrl := hr.1
      have a1' : (q_law_sum_4 xs ys fa fb (List.replicate (max xs.length ys.length) 0)).length = _ := a1
      rw [List.length_replicate] at a1'
      have ir : inR r (j : Int) := inR_nat (by omega)
      exact ⟨⟨ir, inR_nat hj, by rw [gt_co]; exact mulOk_sm h2 (hq.c j) (by omega), ir⟩, add_loop (by omega) j (by omega) r hr hj⟩
  rw [rngT0_length] at lp2
  obtain ⟨v2, b1, b2⟩ := lp2
  have eq0 : q_law_sum xs ys fa fb = (rngT 0 (ys.length : Int)).foldl (fun (s6 : (List Int)) (x7 : Int) => q_law_sum_6 ys fb s6 x7) (q_law_sum_4 xs ys fa fb (List.replicate (max xs.length ys.length) 0)) := by
    rw [← zl]; rfl
  have cc : ∀ k, co (q_law_sum xs ys fa fb) k = fa * co xs k + fb * co ys k := fun k => by
    have a2' : co (q_law_sum_4 xs ys fa fb (List.replicate (max xs.length ys.length) 0)) k = _ := a2 k
    rw [eq0, b2 k, a2', co_repl]
    have e1 : (if k < xs.length then fa * co xs k else 0) = fa * co xs k := by
      split
      · rfl
      · rw [co_ge (by omega)]; omega
    have e2 : (if k < ys.length then fb * co ys k else 0) = fb * co ys k := by
      split
      · rfl
      · rw [co_ge (by omega)]; omega
    rw [e1, e2]; omega
  have a1' : (q_law_sum_4 xs ys fa fb (List.replicate (max xs.length ys.length) 0)).length = _ := a1
  rw [List.length_replicate] at a1'
  refine ⟨⟨rOk_of (by omega) (by omega), line_le (by rw [rngT_length]; omega), rOk_nat (by omega), ?_⟩, ⟨by rw [eq0, b1, a1']; omega, fun k => by
    rw [cc k]
    exact (h1.mulUp (hp.c k) (Nat.le_refl _)).addUp2 (h2.mulUp (hq.c k) (Nat.le_refl _)) (by omega) (by omega)⟩, Ps.ext fun k => ?_⟩
  · rw [zl]
    exact ⟨v1, rOk_nat (by omega), v2⟩
  · rw [lv_cf, cc k, Ps.add_cf, Ps.c_mul, Ps.c_mul, lv_cf, lv_cf, Rat.intCast_add, Rat.intCast_mul, Rat.intCast_mul]
end
end Pd

set_option maxHeartbeats 2000000
/-! MxG: values of polynomials, scaled, powers. -/
namespace Pd
open PySem PySem.Spec L2
/-- the value of a list of numbers -/
def hz (x : Int) : List Int → Int
  | [] => 0
  | a :: as => a + x * hz x as
theorem hz_ev (x : Int) : ∀ (xs : List Int), Ps.ev xs.length (lv xs) (x : Rat) = (hz x xs : Rat)
  | [] => rfl
  | a :: as => by
    have e : Ps.shp (lv (a :: as)) = lv as := rfl
    show (a : Rat) + x * Ps.ev as.length (Ps.shp (lv (a :: as))) x = ((a + x * hz x as : Int) : Rat)
    rw [e, hz_ev x as, Rat.intCast_add, Rat.intCast_mul]
theorem hz_sm {x : Int} {b s : Nat} (hx : Sm x s) : ∀ {xs : List Int}, (∀ k, Sm (co xs k) b) → Sm (hz x xs) (b + xs.length * (s + 1))
  | [], h => Sm.zero (by have := (h 0).pos; simp; omega)
  | a :: as, h => by
    have ih := hz_sm hx (xs := as) fun k => h (k + 1)
    have h0 : Sm a b := h 0
    have e : (a :: as).length * (s + 1) = as.length * (s + 1) + (s + 1) := by rw [List.length_cons, Nat.succ_mul]
    rw [e]
    show Sm (a + x * hz x as) _
    exact h0.addUp2 (hx.mulUp ih (Nat.le_refl _)) (by omega) (by omega)
theorem drop_co {xs : List Int} {j : Nat} (k : Nat) : co (xs.drop j) k = co xs (j + k) := co_drop xs j k
theorem rev_at {α : Type} {xs : List α} {i : Nat} {x : α} (h : xs.reverse[i]? = some x) : i < xs.length ∧ xs[xs.length - 1 - i]? = some x := by
  have hi : i < xs.reverse.length := (List.getElem?_eq_some_iff.mp h).1
  rw [List.length_reverse] at hi
  rw [List.getElem?_reverse hi] at h
  exact ⟨hi, h⟩
theorem ls_drop {xs : List Int} {n b : Nat} (h : LS xs n b) (j : Nat) : ∀ k, Sm (co (xs.drop j) k) b := fun k => by rw [co_drop]; exact h.c _
section
variable {p : Po} {n b : Nat}
theorem at_spec {x : Int} {s : Nat} (hp : PoS p n b) (hx : Sm x s) (hn : n ≤ 1000000) (hb : b + n * (s + 1) ≤ 40000000) (hs : s ≤ 40000000) : v_Poly_at p x ∧ FrS (q_Poly_at p x) (b + n * (s + 1)) ∧ fv (q_Poly_at p x) = Ps.ev n (pv p) (x : Rat) := by
  have l1 := hp.len
  have lm : p.coefs.length * (s + 1) ≤ n * (s + 1) := Nat.mul_le_mul_right _ l1
  have lp := forV_inv0 (V := fun (s1 : Int) (x2 : Int) => v_Poly_at_2 p x s1 x2) (f := fun (s1 : Int) (x2 : Int) => q_Poly_at_2 p x s1 x2) (xs := p.coefs.reverse) (s := 0)
    (fun i t => t = hz x (p.coefs.drop (p.coefs.length - i))) (by rw [Nat.sub_zero, List.drop_length]; rfl) fun i y t hy ht => by
      obtain ⟨hi, e⟩ := rev_at hy
      rw [co_lt (by omega)] at e
      have e := Option.some.inj e
      have ds := drop_cons (xs := p.coefs) (j := p.coefs.length - 1 - i) (by omega)
      rw [show p.coefs.length - 1 - i + 1 = p.coefs.length - i by omega] at ds
      have sz := hz_sm (x := x) hx (ls_drop hp.ls (p.coefs.length - i))
      have le : (p.coefs.drop (p.coefs.length - i)).length * (s + 1) ≤ p.coefs.length * (s + 1) := Nat.mul_le_mul_right _ (by rw [List.length_drop]; omega)
      rw [← ht] at sz
      refine ⟨mulOk_sm sz hx (by omega), ?_⟩
      show t * x + y = hz x (p.coefs.drop (p.coefs.length - (i + 1)))
      rw [show p.coefs.length - (i + 1) = p.coefs.length - 1 - i by omega, ds]
      show t * x + y = co p.coefs (p.coefs.length - 1 - i) + x * hz x (p.coefs.drop (p.coefs.length - i))
      rw [← ht, e, Int.mul_comm, Int.add_comm]
  rw [List.length_reverse, Nat.sub_self, List.drop_zero] at lp
  obtain ⟨v, e⟩ := lp
  have sz := hz_sm (x := x) hx hp.ls.c
  have e' : q_Poly_at_3 p x 0 = hz x p.coefs := e
  obtain ⟨w, s1, e1⟩ := frac_mk (n := hz x p.coefs) (d := p.den) (b := b + n * (s + 1)) hp.ne' (sz.up (by omega)) (hp.d.up (by omega))
  refine ⟨⟨v, ?_⟩, ?_, ?_⟩
  · show v_Fraction_init (q_Poly_at_3 p x 0) p.den
    rw [e']; exact w
  · show FrS (q_Fraction_init (q_Poly_at_3 p x 0) p.den) _
    rw [e']; exact s1
  · show fv (q_Fraction_init (q_Poly_at_3 p x 0) p.den) = _
    rw [e', e1, ← hz_ev, Ps.ev_up (n := p.coefs.length) (m := n) _ (fun k hk => by show (co p.coefs k : Rat) / p.den = 0; rw [co_ge hk]; grind) l1, pv_lv hp, Ps.ev_cmul]
    have := hp.ne
    grind
theorem scaled_spec {f : Fr} {c : Nat} (hp : PoS p n b) (hf : FrS f c) (hn : n ≤ 1000000) (hb : b ≤ 40000000) (hc : c ≤ 40000000) : v_Poly_scaled p f ∧ PoS (q_Poly_scaled p f) n (b + c) ∧ pv (q_Poly_scaled p f) = Ps.c (fv f) * pv p := by
  have l1 := hp.len
  have cc : ∀ k, co (p.coefs.map fun (x1 : Int) => (x1 * f.num)) k = co p.coefs k * f.num := fun k => co_map (fun x => x * f.num) (by simp) _ k
  have hd : p.den * f.den ≠ 0 := Int.mul_ne_zero hp.ne' (by have := hf.pos; omega)
  obtain ⟨v, s, e⟩ := poly_mk (xs := p.coefs.map fun (x1 : Int) => (x1 * f.num)) (d := p.den * f.den) (n := n) (b := b + c) hd (by rw [List.length_map]; exact l1) (by omega) (fun k => by rw [cc k]; exact (hp.c k).mulUp hf.n (Nat.le_refl _)) (hp.d.mulUp hf.d (Nat.le_refl _))
  refine ⟨⟨fun x hx => mulOk_sm (hp.ls.mem hx) hf.n (by omega), line_le (by omega), mulOk_sm hp.d hf.d (by omega), v⟩, s, Ps.ext fun k => ?_⟩
  show (pv (q_Poly_init (p.coefs.map fun (x1 : Int) => (x1 * f.num)) (p.den * f.den))).cf k = _
  rw [e k, cc k, Ps.c_mul, Rat.intCast_mul, Rat.intCast_mul]
  show _ = (f.num : Rat) / f.den * ((co p.coefs k : Rat) / p.den)
  have := hp.ne
  have := hf.ne
  grind
theorem one_mk : v_Poly_init [(1 : Int)] 1 ∧ PoS (q_Poly_init [(1 : Int)] 1) 1 1 ∧ pv (q_Poly_init [(1 : Int)] 1) = 1 := by
  have c1 : ∀ k, co [(1 : Int)] k = if k = 0 then 1 else 0 := fun k => by
    cases k with
    | zero => rfl
    | succ k => rw [co_ge (by simp)]; rfl
  obtain ⟨v, s, e⟩ := poly_mk (xs := [(1 : Int)]) (d := 1) (n := 1) (b := 1) (by decide) (by decide) (by decide) (fun k => by rw [c1]; split <;> exact ⟨by decide, by decide⟩) ⟨by decide, by decide⟩
  refine ⟨v, s, Ps.ext fun k => ?_⟩
  rw [e k, Ps.one_cf, c1]
  by_cases h : k = 0
  · rw [if_pos h, if_pos h, show ((1 : Int) : Rat) = 1 from rfl]; grind
  · rw [if_neg h, if_neg h, show ((1 : Int) : Rat) = 1 from rfl, show ((0 : Int) : Rat) = 0 from rfl]; grind
theorem Ps_pow_zero (f : Ps Rat) : f ^ 0 = 1 := rfl
theorem Ps_pow_succ (f : Ps Rat) (n : Nat) : f ^ (n + 1) = f ^ n * f := rfl
theorem power_spec {e : Nat} (hp : PoS p n b) (hn : n ≤ 1000) (he : e ≤ 100) (hb : b ≤ 100000) : v_Poly_power p (e : Int) ∧ PoS (q_Poly_power p (e : Int)) (1 + e * n) (1 + e * (b + (1 + e * n))) ∧ pv (q_Poly_power p (e : Int)) = pv p ^ e := by
  obtain ⟨v0, s0, e0⟩ := one_mk
  have en : e * n ≤ 100 * 1000 := Nat.mul_le_mul he hn
  have lp := forV_inv0 (V := fun (s1 : Po) (x2 : Int) => v_Poly_power_2 p s1) (f := fun (s1 : Po) (x2 : Int) => q_Poly_power_2 p s1) (xs := rngT 0 (e : Int)) (s := q_Poly_init [(1 : Int)] 1)
    (fun i r => PoS r (1 + i * n) (1 + i * (b + (1 + e * n))) ∧ pv r = pv p ^ i) ⟨by rw [Nat.zero_mul, Nat.zero_mul]; exact s0, e0⟩ fun i x r hx ⟨h1, h2⟩ => by
      obtain ⟨hi, -⟩ := rngT0_get hx
      have a1 : i * n ≤ e * n := Nat.mul_le_mul_right _ (by omega)
      have a2 : i * (b + (1 + e * n)) ≤ 100 * (b + (1 + e * n)) := Nat.mul_le_mul_right _ (by omega)
      have a3 : (i + 1) * (b + (1 + e * n)) = i * (b + (1 + e * n)) + (b + (1 + e * n)) := Nat.succ_mul _ _
      have a4 : (i + 1) * n = i * n + n := Nat.succ_mul _ _
      obtain ⟨v, s, e'⟩ := mul_spec h1 hp (by omega) (by omega) (by omega) (by omega)
      refine ⟨v, s.up (by omega) (by omega), ?_⟩
      show pv (q_Poly_mul r p) = _
      rw [e', h2]; rfl
  rw [rngT0_length] at lp
  obtain ⟨v, s, e'⟩ := lp
  exact ⟨⟨v0, rOk_nat (by omega), v⟩, s, e'⟩
/-- the value at a fraction -/
theorem value_spec {x : Fr} {s : Nat} (hp : PoS p n b) (hx : FrS x s) (hn : n ≤ 1000) (hs : s ≤ 10000) (hb : b ≤ 1000000) : v_Poly_value p x ∧ FrS (q_Poly_value p x) (b + 2 * ((n + 1) * (s + 1))) ∧ fv (q_Poly_value p x) = Ps.ev n (pv p) (fv x) := by
  have l1 := hp.len
  have hxn := hx.ne
  have xn := hx.num
  have ms : (n + 1) * (s + 1) ≤ 1001 * 10001 := Nat.mul_le_mul (by omega) (by omega)
  have lp := forV_inv0 (V := fun (s1 : Int × Int) (x2 : Int) => v_Poly_value_3 p x s1.1 s1.2 x2) (f := fun (s1 : Int × Int) (x2 : Int) => q_Poly_value_3 p x s1.1 s1.2 x2) (xs := p.coefs.reverse) (s := (0, 1))
    (fun i t => Sm t.1 (b + i * (s + 1)) ∧ Sm t.2 (1 + i * s) ∧ t.2 ≠ 0 ∧ (t.1 : Rat) * x.den = Ps.ev i (lv (p.coefs.drop (p.coefs.length - i))) (fv x) * t.2) ⟨Sm.zero (by have := (hp.c 0).pos; omega), ⟨by rw [Nat.zero_mul]; show (1 : Nat) < _; decide, by omega⟩, by decide, by
      rw [Nat.sub_zero, List.drop_length, lv_nil, Ps.ev_zero]
      show ((0 : Int) : Rat) * x.den = 0 * _
      grind⟩ fun i y t hy ht => by
      obtain ⟨hi, e⟩ := rev_at hy
      obtain ⟨t1, t2⟩ := t
      obtain ⟨h1, h2, h3, h4⟩ := ht
      dsimp only at h1 h2 h3 h4
      rw [co_lt (by omega)] at e
      have e := Option.some.inj e
      have sy : Sm y b := by rw [← e]; exact hp.c _
      have ds := drop_cons (xs := p.coefs) (j := p.coefs.length - 1 - i) (by omega)
      rw [show p.coefs.length - 1 - i + 1 = p.coefs.length - i by omega, e] at ds
      have m1 : i * (s + 1) ≤ n * (s + 1) := Nat.mul_le_mul_right _ (by omega)
      have m2 : i * s ≤ i * (s + 1) := Nat.mul_le_mul_left _ (by omega)
      have m3 : (n + 1) * (s + 1) = n * (s + 1) + (s + 1) := Nat.succ_mul _ _
      have m4 : (i + 1) * (s + 1) = i * (s + 1) + (s + 1) := Nat.succ_mul _ _
      have m5 : (i + 1) * s = i * s + s := Nat.succ_mul _ _
      have m6 : i * s + i = i * (s + 1) := (Nat.mul_succ i s).symm
      have sx := hx.d.pos
      refine ⟨⟨mulOk_sm h1 hx.n (by omega), mulOk_sm sy h2 (by omega), mulOk_sm h2 hx.d (by omega)⟩, ?_⟩
      show Sm (t1 * x.num + y * t2) (b + (i + 1) * (s + 1)) ∧ Sm (t2 * x.den) (1 + (i + 1) * s) ∧ t2 * x.den ≠ 0 ∧ (((t1 * x.num + y * t2 : Int) : Rat)) * x.den = Ps.ev (i + 1) (lv (p.coefs.drop (p.coefs.length - (i + 1)))) (fv x) * ((t2 * x.den : Int) : Rat)
      refine ⟨(h1.mulUp hx.n (Nat.le_refl _)).addUp2 (sy.mulUp h2 (Nat.le_refl _)) (by omega) (by omega), (h2.mulUp hx.d (by omega)), Int.mul_ne_zero h3 (by have := hx.pos; omega), ?_⟩
      rw [show p.coefs.length - (i + 1) = p.coefs.length - 1 - i by omega, ds]
      show _ = ((y : Rat) + fv x * Ps.ev i (lv (p.coefs.drop (p.coefs.length - i))) (fv x)) * _
      rw [Rat.intCast_add, Rat.intCast_mul, Rat.intCast_mul, Rat.intCast_mul, xn]
      grind
  rw [List.length_reverse, Nat.sub_self, List.drop_zero] at lp
  obtain ⟨v, h1, h2, h3, h4⟩ := lp
  generalize hT : (p.coefs.reverse.foldl (fun (s1 : Int × Int) (x2 : Int) => q_Poly_value_3 p x s1.1 s1.2 x2) (0, 1)) = T at h1 h2 h3 h4
  have hT' : q_Poly_value_5 p x 0 1 = T := hT
  have m1 : p.coefs.length * (s + 1) ≤ n * (s + 1) := Nat.mul_le_mul_right _ l1
  have m2 : p.coefs.length * s ≤ p.coefs.length * (s + 1) := Nat.mul_le_mul_left _ (by omega)
  have m3 : (n + 1) * (s + 1) = n * (s + 1) + (s + 1) := Nat.succ_mul _ _
  have hd : p.den * T.2 ≠ 0 := Int.mul_ne_zero hp.ne' h3
  obtain ⟨w, s1, e1⟩ := frac_mk (n := T.1 * x.den) (d := p.den * T.2) (b := b + 2 * ((n + 1) * (s + 1))) hd (h1.mulUp hx.d (by omega)) (hp.d.mulUp h2 (by omega))
  refine ⟨⟨v, ?_⟩, ?_, ?_⟩
  · rw [hT']
    exact ⟨mulOk_sm h1 hx.d (by omega), mulOk_sm hp.d h2 (by omega), w⟩
  · show FrS (q_Poly_value_6 p x (q_Poly_value_5 p x 0 1).1 (q_Poly_value_5 p x 0 1).2) _
    rw [hT']; exact s1
  · show fv (q_Poly_value_6 p x (q_Poly_value_5 p x 0 1).1 (q_Poly_value_5 p x 0 1).2) = _
    rw [hT']
    show fv (q_Fraction_init (T.1 * x.den) (p.den * T.2)) = _
    rw [e1, Rat.intCast_mul, Rat.intCast_mul, h4]
    have e2 : Ps.ev p.coefs.length (lv p.coefs) (fv x) = p.den * Ps.ev n (pv p) (fv x) := by
      rw [pv_lv hp, Ps.ev_cmul, Ps.ev_up (n := p.coefs.length) (m := n) _ (fun k hk => by show (co p.coefs k : Rat) / p.den = 0; rw [co_ge hk]; grind) l1]
    rw [e2]
    have := hp.ne
    have := ic_ne h3
    grind
end
/-! ### the law's own value -/
theorem sumAt_spec {xs : List Int} {n b s : Nat} {u w : Int} (hx : LS xs n b) (hu : Sm u s) (hw : Sm w s) (hw0 : w ≠ 0) (hn : n ≤ 100) (hs : s ≤ 100) (hb : b ≤ 1000) : v_law_sum_at xs u w ∧ ∃ t l : Int, q_law_sum_at xs u w = [t, l] ∧ l ≠ 0 ∧ Sm t (b + 1 + n * (n * s + 2)) ∧ Sm l (1 + n * (n * s + 1)) ∧ (t : Rat) = Ps.ev n (lv xs) ((u : Rat) / w) * l := by
  have l1 := hx.len
  have w0 := ic_ne hw0
  have mm : n * s ≤ 100 * 100 := Nat.mul_le_mul hn hs
  have lp := forV_inv0 (V := fun (s1 : Int × Int × Int × Int) (x2 : Int) => v_law_sum_at_5 u w s1.1 s1.2.1 s1.2.2.1 s1.2.2.2 x2) (f := fun (s1 : Int × Int × Int × Int) (x2 : Int) => q_law_sum_at_5 u w s1.1 s1.2.1 s1.2.2.1 s1.2.2.2 x2) (xs := xs) (s := (0, 1, 1, 1))
    (fun i t => Sm t.1 (b + 1 + i * (n * s + 2)) ∧ (Sm t.2.1 (1 + i * (n * s + 1)) ∧ t.2.1 ≠ 0) ∧ Sm t.2.2.1 (1 + i * s) ∧ (Sm t.2.2.2 (1 + i * s) ∧ t.2.2.2 ≠ 0) ∧ ∃ P : Rat, (t.2.2.1 : Rat) = P * t.2.2.2 ∧ (t.1 : Rat) + t.2.1 * P * Ps.ev (xs.length - i) (lv (xs.drop i)) ((u : Rat) / w) = t.2.1 * Ps.ev xs.length (lv xs) ((u : Rat) / w)) ⟨Sm.zero (by omega), ⟨⟨by rw [Nat.zero_mul]; show (1 : Nat) < _; decide, by omega⟩, by decide⟩, ⟨by rw [Nat.zero_mul]; show (1 : Nat) < _; decide, by omega⟩, ⟨⟨by rw [Nat.zero_mul]; show (1 : Nat) < _; decide, by omega⟩, by decide⟩, 1, by
      show ((1 : Int) : Rat) = 1 * ((1 : Int) : Rat)
      grind, by
      show ((0 : Int) : Rat) + ((1 : Int) : Rat) * 1 * _ = ((1 : Int) : Rat) * _
      rw [Nat.sub_zero, List.drop_zero, show ((1 : Int) : Rat) = 1 from rfl, show ((0 : Int) : Rat) = 0 from rfl]
      grind⟩ fun i y t hy ht => by
      obtain ⟨t1, t2, t3, t4⟩ := t
      obtain ⟨h1, ⟨h2, h3⟩, h4, ⟨h5, h6⟩, P, h7, h8⟩ := ht
      dsimp only at h1 h2 h3 h4 h5 h6 h7 h8
      have hi : i < xs.length := (List.getElem?_eq_some_iff.mp hy).1
      rw [co_lt hi] at hy
      have e := Option.some.inj hy
      have sy : Sm y b := by rw [← e]; exact hx.c _
      have ds := drop_cons (xs := xs) (j := i) hi
      rw [e] at ds
      have m1 : i * s + s ≤ n * s := by rw [← Nat.succ_mul]; exact Nat.mul_le_mul_right _ (by omega)
      have m2 : (i + 1) * (n * s + 2) = i * (n * s + 2) + (n * s + 2) := Nat.succ_mul _ _
      have m3 : (i + 1) * (n * s + 1) = i * (n * s + 1) + (n * s + 1) := Nat.succ_mul _ _
      have m4 : (i + 1) * s = i * s + s := Nat.succ_mul _ _
      have m5 : i * (n * s + 2) = i * (n * s + 1) + i := by rw [show n * s + 2 = (n * s + 1) + 1 by omega, Nat.mul_succ i (n * s + 1)]
      have m6 : i * (n * s + 1) ≤ 100 * (n * s + 1) := Nat.mul_le_mul_right _ (by omega)
      have sp := hu.pos
      refine ⟨⟨mulOk_sm h1 h5 (by omega), mulOk_sm sy h4 (by omega), mulOk_sm (sy.mulUp h4 (Nat.le_refl _)) h2 (by omega), mulOk_sm h2 h5 (by omega), mulOk_sm h4 hu (by omega), mulOk_sm h5 hw (by omega)⟩, ?_⟩
      show Sm (t1 * t4 + y * t3 * t2) _ ∧ (Sm (t2 * t4) _ ∧ t2 * t4 ≠ 0) ∧ Sm (t3 * u) _ ∧ (Sm (t4 * w) _ ∧ t4 * w ≠ 0) ∧ ∃ P : Rat, ((t3 * u : Int) : Rat) = P * ((t4 * w : Int) : Rat) ∧ ((t1 * t4 + y * t3 * t2 : Int) : Rat) + ((t2 * t4 : Int) : Rat) * P * Ps.ev (xs.length - (i + 1)) (lv (xs.drop (i + 1))) ((u : Rat) / w) = ((t2 * t4 : Int) : Rat) * Ps.ev xs.length (lv xs) ((u : Rat) / w)
      refine ⟨(h1.mulUp h5 (Nat.le_refl _)).addUp2 ((sy.mulUp h4 (Nat.le_refl _)).mulUp h2 (Nat.le_refl _)) (by omega) (by omega), ⟨h2.mulUp h5 (by omega), Int.mul_ne_zero h3 h6⟩, h4.mulUp hu (by omega), ⟨h5.mulUp hw (by omega), Int.mul_ne_zero h6 hw0⟩, P * ((u : Rat) / w), ?_, ?_⟩
      · rw [Rat.intCast_mul, Rat.intCast_mul, h7]; grind
      · rw [show xs.length - i = (xs.length - (i + 1)) + 1 by omega, ds] at h8
        have h9 : (t1 : Rat) + t2 * P * ((y : Rat) + (u : Rat) / w * Ps.ev (xs.length - (i + 1)) (lv (xs.drop (i + 1))) ((u : Rat) / w)) = t2 * Ps.ev xs.length (lv xs) ((u : Rat) / w) := h8
        rw [Rat.intCast_add, Rat.intCast_mul, Rat.intCast_mul, Rat.intCast_mul, Rat.intCast_mul, h7]
        generalize Ps.ev (xs.length - (i + 1)) (lv (xs.drop (i + 1))) ((u : Rat) / w) = A at h9 ⊢
        generalize Ps.ev xs.length (lv xs) ((u : Rat) / w) = B at h9 ⊢
        grind
  obtain ⟨v, h1, ⟨h2, h3⟩, h4, ⟨h5, h6⟩, P, h7, h8⟩ := lp
  generalize hT : (xs.foldl (fun (s1 : Int × Int × Int × Int) (x2 : Int) => q_law_sum_at_5 u w s1.1 s1.2.1 s1.2.2.1 s1.2.2.2 x2) (0, 1, 1, 1)) = T at h1 h2 h3 h4 h5 h6 h7 h8
  have m1 : xs.length * (n * s + 2) ≤ n * (n * s + 2) := Nat.mul_le_mul_right _ l1
  have m2 : xs.length * (n * s + 1) ≤ n * (n * s + 1) := Nat.mul_le_mul_right _ l1
  refine ⟨v, T.1, T.2.1, ?_, h3, h1.up (by omega), h2.up (by omega), ?_⟩
  · rw [← hT]; rfl
  · rw [Nat.sub_self, List.drop_length] at h8
    have h9 : (T.1 : Rat) + T.2.1 * P * 0 = T.2.1 * Ps.ev xs.length (lv xs) ((u : Rat) / w) := h8
    rw [Ps.ev_up (n := xs.length) (m := n) _ (lv_Bd (Nat.le_refl _)) l1]
    grind
end Pd

set_option maxHeartbeats 2000000
/-! MxH: division of polynomials. -/
namespace Pd
open PySem PySem.Spec L2
namespace Ps
open Lean.Grind
variable {R : Type} [CommRing R]
/-- X to the k -/
def Xp (k : Nat) : Ps R := ⟨fun j => if j = k then 1 else 0⟩
theorem Xp_zero : (Xp 0 : Ps R) = 1 := ext fun k => by rw [one_cf]; rfl
theorem Xp_succ (k : Nat) : (Xp (k + 1) : Ps R) = X * Xp k := ext fun j => by
  cases j with
  | zero => rw [X_zero]; rfl
  | succ j =>
    rw [X_succ]
    show (if j + 1 = k + 1 then (1 : R) else 0) = if j = k then 1 else 0
    by_cases h : j = k
    · rw [if_pos h, if_pos (by omega)]
    · rw [if_neg h, if_neg (by omega)]
theorem Xp_mul (f : Ps R) : ∀ (k j : Nat), (Xp k * f).cf j = if k ≤ j then f.cf (j - k) else 0
  | 0, j => by
    rw [Xp_zero, if_pos (Nat.zero_le _)]
    have : (1 : Ps R) * f = f := by grind
    rw [this]; rfl
  | k + 1, j => by
    have e : Xp (k + 1) * f = X * (Xp k * f) := by rw [Xp_succ]; grind
    rw [e]
    cases j with
    | zero => rw [X_zero, if_neg (by omega)]
    | succ j =>
      rw [X_succ, Xp_mul f k j]
      by_cases h : k ≤ j
      · rw [if_pos h, if_pos (by omega), show j + 1 - (k + 1) = j - k by omega]
      · rw [if_neg h, if_neg (by omega)]
/-- the last coefficient of a product -/
theorem mul_top : ∀ {n m : Nat} {f g : Ps R}, Bd (n + 1) f → Bd (m + 1) g → (f * g).cf (n + m) = f.cf n * g.cf m
  | 0, m, f, g, h, k => by
    have e : f * g = Ps.c (f.cf 0) * g + X * (Ps.shp f * g) := by
      conv => lhs; rw [split f]
      grind
    have z : Ps.shp f = 0 := (Bd.shp (n := 0) h).nil
    rw [e, z]
    have z2 : X * (0 * g) = 0 := by grind
    rw [z2, add_cf, zero_cf, c_mul, Nat.zero_add]
    grind
  | n + 1, m, f, g, h, k => by
    have e : f * g = Ps.c (f.cf 0) * g + X * (Ps.shp f * g) := by
      conv => lhs; rw [split f]
      grind
    have ih := mul_top (n := n) (m := m) h.shp k
    rw [e, show n + 1 + m = (n + m) + 1 by omega, add_cf, X_succ, ih, c_mul, k _ (by omega)]
    show f.cf 0 * 0 + f.cf (n + 1) * g.cf m = _
    grind
end Ps
theorem deg_zero {f g : Ps Rat} {m : Nat} (hg : Ps.Bd (m + 1) g) (h0 : g.cf m ≠ 0) (hp : Ps.Bd m (f * g)) : ∀ {n : Nat}, Ps.Bd n f → f = 0
  | 0, h => h.nil
  | n + 1, h => by
    have t := Ps.mul_top h hg
    rw [hp _ (by omega)] at t
    have z : f.cf n = 0 := by grind
    refine deg_zero hg h0 hp (n := n) fun k hk => ?_
    by_cases e : k = n
    · rw [e, z]
    · exact h k (by omega)
/-- the quotient and the remainder are one -/
theorem div_uniq {F Q R p q : Ps Rat} {m n : Nat} (hq : Ps.Bd (m + 1) q) (h0 : q.cf m ≠ 0) (hF : Ps.Bd n F) (hQ : Ps.Bd n Q) (hR : Ps.Bd m R) (e1 : p = F * q) (e2 : p = Q * q + R) : F = Q ∧ R = 0 := by
  have e3 : (F - Q) * q = R := by grind
  have z := deg_zero (f := F - Q) hq h0 (by rw [e3]; exact hR) (hF.sub hQ)
  have e : F = Q := by grind
  refine ⟨e, ?_⟩
  rw [← e3, z]; grind
theorem po_zero (p : Po) : q_Poly_is_zero p = decide (p.coefs.length = 0) := by
  show decide (((p.coefs.length : Nat) : Int) = 0) = _
  rw [decide_eq_decide]; omega
theorem rngD_length (a : Int) (n : Nat) : (rngD a n).length = n := by
  induction n generalizing a with
  | zero => rfl
  | succ n ih => simp [rngD, ih]
theorem rngD_get {a : Int} {n i : Nat} {x : Int} (h : (rngD a n)[i]? = some x) : i < n ∧ x = a - i := by
  induction n generalizing a i with
  | zero => simp [rngD] at h
  | succ n ih =>
    cases i with
    | zero => simp [rngD] at h; exact ⟨by omega, by rw [← h]; simp⟩
    | succ i =>
      obtain ⟨h1, h2⟩ := ih (a := a + -1) (i := i) (by simpa [rngD] using h)
      exact ⟨by omega, by rw [h2]; push_cast; omega⟩
theorem lv_map (f : Int) (xs : List Int) : lv (xs.map fun (x : Int) => f * x) = ci f * lv xs := Ps.ext fun k => by
  rw [Ps.c_mul, lv_cf, lv_cf, co_map (fun x => f * x) (by simp), Rat.intCast_mul]
theorem lv_mapr (f : Int) (xs : List Int) : lv (xs.map fun (x : Int) => x * f) = ci f * lv xs := Ps.ext fun k => by
  rw [Ps.c_mul, lv_cf, lv_cf, co_map (fun x => x * f) (by simp), Rat.intCast_mul]; grind
theorem lv_set {xs : List Int} {m : Nat} {v : Int} (h : m < xs.length) : lv (xs.set m (co xs m + v)) = lv xs + ci v * Ps.Xp m := Ps.ext fun k => by
  rw [Ps.add_cf, Ps.c_mul, lv_cf, lv_cf, co_set h]
  show _ = (co xs k : Rat) + v * (if k = m then 1 else 0)
  by_cases e : k = m
  · rw [if_pos e, if_pos e, Rat.intCast_add, e]; grind
  · rw [if_neg e, if_neg e]; grind
theorem lv_len {xs : List Int} {n : Nat} (h : ∀ k, n ≤ k → co xs k = 0) : Ps.Bd n (lv xs) := fun k hk => by rw [lv_cf, h k hk]; rfl
section
variable {p q : Po} {n b m c : Nat}
theorem lead_ne (hq : PoS q m c) (h0 : q.coefs.length ≠ 0) : co q.coefs (q.coefs.length - 1) ≠ 0 := hq.last fun e => h0 (by rw [e]; rfl)
/-- one place of the division -/
theorem div_step (hq : PoS q m c) (h0 : q.coefs.length ≠ 0) {s j B S : Nat} {P : Ps Rat} {rest quo : List Int} {sc : Int} {N : Nat} (hN : N ≤ 1000000) (hr : rest.length = N) (hs : quo.length = s) (hsz : N = s + q.coefs.length - 1) (hj : j < s) (hB : B ≤ 40000000) (hc : c ≤ 40000000) (hS : S ≤ 40000000)
    (r1 : ∀ k, Sm (co rest k) B) (q1 : ∀ k, Sm (co quo k) B) (s1 : Sm sc S) (s0 : sc ≠ 0) (hz : ∀ k, j + 1 + q.coefs.length - 1 ≤ k → co rest k = 0) (id : ci sc * P = lv quo * lv q.coefs + lv rest) :
    v_divide_7 p q (q.coefs.length : Int) (co q.coefs (q.coefs.length - 1)) rest quo sc (j : Int) ∧ ∃ rest' quo' sc', q_divide_7 p q (q.coefs.length : Int) (co q.coefs (q.coefs.length - 1)) rest quo sc (j : Int) = (rest', quo', sc') ∧ rest'.length = N ∧ quo'.length = s ∧ (∀ k, Sm (co rest' k) (B + c + 1)) ∧ (∀ k, Sm (co quo' k) (B + c + 1)) ∧ Sm sc' (S + c) ∧ sc' ≠ 0 ∧ (∀ k, j + q.coefs.length - 1 ≤ k → co rest' k = 0) ∧ ci sc' * P = lv quo' * lv q.coefs + lv rest' := by
  have hl := lead_ne hq h0
  have ql := hq.len
  generalize hlead : co q.coefs (q.coefs.length - 1) = lead at hl ⊢
  have sl : Sm lead c := by rw [← hlead]; exact hq.c _
  have et : gt rest (((j : Int) + (q.coefs.length : Int)) - 1) = co rest (j + q.coefs.length - 1) := by
    rw [show ((j : Int) + (q.coefs.length : Int)) - 1 = ((j + q.coefs.length - 1 : Nat) : Int) by omega, gt_co]
  have it : inR rest (((j : Int) + (q.coefs.length : Int)) - 1) := by unfold inR; omega
  generalize htop : co rest (j + q.coefs.length - 1) = top at et
  have st : Sm top B := by rw [← htop]; exact r1 _
  have cr : ∀ k, co (rest.map fun (x4 : Int) => (lead * x4)) k = lead * co rest k := fun k => co_map (fun x => lead * x) (by simp) _ k
  have cq : ∀ k, co (quo.map fun (x6 : Int) => (lead * x6)) k = lead * co quo k := fun k => co_map (fun x => lead * x) (by simp) _ k
  have inner := forV_inv0 (V := fun (s8 : (List Int)) (x9 : Int) => v_divide_11 p q (q.coefs.length : Int) lead s8 (quo.map fun (x6 : Int) => (lead * x6)) sc (j : Int) top x9) (f := fun (s8 : (List Int)) (x9 : Int) => q_divide_11 p q (q.coefs.length : Int) lead s8 (quo.map fun (x6 : Int) => (lead * x6)) sc (j : Int) top x9) (xs := rngT 0 (q.coefs.length : Int)) (s := rest.map fun (x4 : Int) => (lead * x4))
    (fun i r => (rest.map fun (x4 : Int) => (lead * x4)).length = r.length ∧ ∀ k, co r k = co (rest.map fun (x4 : Int) => (lead * x4)) k + (if j ≤ k ∧ k < j + i then (-top) * co q.coefs (k - j) else 0)) ⟨rfl, fun k => by rw [if_neg (by omega)]; omega⟩ fun i x r hx ⟨h1, h2⟩ => by
      obtain ⟨hi, e⟩ := rngT0_get hx
      subst e
      have h1' := h1
      rw [List.length_map] at h1'
      obtain ⟨t1, t2⟩ := row_step h1 h2 (by omega : j + i < r.length)
      have iR : inR r ((j : Int) + (i : Int)) := by unfold inR; omega
      have k2 : gt q.coefs (i : Int) = co q.coefs i := gt_co _ _
      have e : q_divide_11 p q (q.coefs.length : Int) lead r (quo.map fun (x6 : Int) => (lead * x6)) sc (j : Int) top (i : Int) = setT r ((j : Int) + (i : Int)) (gt r ((j : Int) + (i : Int)) + (-top) * co q.coefs i) := by
        unfold q_divide_11; rw [k2]; congr 1; rw [Int.neg_mul]; omega
      refine ⟨⟨iR, inR_nat hi, by rw [k2]; exact mulOk_sm st (hq.c i) (by omega), iR⟩, ?_⟩
      show _ = (q_divide_11 p q (q.coefs.length : Int) lead r (quo.map fun (x6 : Int) => (lead * x6)) sc (j : Int) top (i : Int)).length ∧ ∀ k, co (q_divide_11 p q (q.coefs.length : Int) lead r (quo.map fun (x6 : Int) => (lead * x6)) sc (j : Int) top (i : Int)) k = _
      rw [e]
      exact ⟨h1.trans t1.symm, t2⟩
  rw [rngT0_length] at inner
  obtain ⟨vi, i1, i2⟩ := inner
  generalize hR : (rngT 0 (q.coefs.length : Int)).foldl (fun (s8 : (List Int)) (x9 : Int) => q_divide_11 p q (q.coefs.length : Int) lead s8 (quo.map fun (x6 : Int) => (lead * x6)) sc (j : Int) top x9) (rest.map fun (x4 : Int) => (lead * x4)) = R at i1 i2
  rw [List.length_map] at i1
  have i3 : ∀ k, co R k = lead * co rest k + (if j ≤ k then (-top) * co q.coefs (k - j) else 0) := fun k => by
    rw [i2 k, cr]; exact row_end k
  have lR : lv R = ci lead * lv rest + ci (-top) * (Ps.Xp j * lv q.coefs) := Ps.ext fun k => by
    rw [Ps.add_cf, Ps.c_mul, Ps.c_mul, Ps.Xp_mul, lv_cf, lv_cf, i3 k, Rat.intCast_add, Rat.intCast_mul]
    by_cases h : j ≤ k
    · rw [if_pos h, if_pos h, Rat.intCast_mul, lv_cf]
    · rw [if_neg h, if_neg h, show ((0 : Int) : Rat) = 0 from rfl]; grind
  have gq : gt (quo.map fun (x6 : Int) => (lead * x6)) (j : Int) = co (quo.map fun (x6 : Int) => (lead * x6)) j := gt_co _ _
  have ij : inR (quo.map fun (x6 : Int) => (lead * x6)) (j : Int) := inR_nat (by rw [List.length_map]; omega)
  have eS : setT (quo.map fun (x6 : Int) => (lead * x6)) (j : Int) (gt (quo.map fun (x6 : Int) => (lead * x6)) (j : Int) + top) = (quo.map fun (x6 : Int) => (lead * x6)).set j (co (quo.map fun (x6 : Int) => (lead * x6)) j + top) := by
    rw [gq, setT_nat (by rw [List.length_map]; omega)]
  have eQ : q_divide_7 p q (q.coefs.length : Int) lead rest quo sc (j : Int) = (R, (quo.map fun (x6 : Int) => (lead * x6)).set j (co (quo.map fun (x6 : Int) => (lead * x6)) j + top), sc * lead) := by
    unfold q_divide_7
    rw [et]
    show ((rngT 0 (q.coefs.length : Int)).foldl (fun (s8 : (List Int)) (x9 : Int) => q_divide_11 p q (q.coefs.length : Int) lead s8 (quo.map fun (x6 : Int) => (lead * x6)) sc (j : Int) top x9) (rest.map fun (x4 : Int) => (lead * x4)), setT (quo.map fun (x6 : Int) => (lead * x6)) (j : Int) (gt (quo.map fun (x6 : Int) => (lead * x6)) (j : Int) + top), sc * lead) = _
    rw [hR, eS]
  refine ⟨?_, R, _, _, eQ, by omega, by rw [List.length_set, List.length_map, hs], fun k => ?_, fun k => ?_, s1.mulUp sl (Nat.le_refl _), Int.mul_ne_zero s0 hl, fun k hk => ?_, ?_⟩
  · refine ⟨it, ?_⟩
    rw [et]
    refine ⟨fun x hx => mulOk_sm sl ((⟨Nat.le_refl _, r1⟩ : LS rest rest.length B).mem hx) (by omega), line_le (by omega), fun x hx => mulOk_sm sl ((⟨Nat.le_refl _, q1⟩ : LS quo quo.length B).mem hx) (by omega), line_le (by omega), rOk_nat (by omega), vi, ij, ij, mulOk_sm s1 sl (by omega)⟩
  · rw [i3 k]
    refine (sl.mulUp (r1 k) (Nat.le_refl _)).addUp2 (b := c + B) ?_ (by omega) (by omega)
    split
    · exact st.negUp.mulUp (hq.c _) (by omega)
    · exact Sm.zero (by have := st.pos; omega)
  · rw [co_set (by rw [List.length_map]; omega)]
    split
    · rw [cq]
      exact (sl.mulUp (q1 j) (Nat.le_refl _)).addUp2 st (by omega) (by have := sl.pos; omega)
    · rw [cq]
      exact sl.mulUp (q1 k) (by omega)
  · rw [i3 k, if_pos (by omega)]
    by_cases e : k = j + q.coefs.length - 1
    · rw [e, htop, show j + q.coefs.length - 1 - j = q.coefs.length - 1 by omega, hlead]
      rw [Int.neg_mul, Int.mul_comm]; omega
    · rw [hz k (by omega), co_ge (xs := q.coefs) (by omega)]; omega
  · rw [lR, lv_set (by rw [List.length_map]; omega), lv_map, ci_mul, ci_neg]
    have : ci sc * ci lead * P = ci lead * (ci sc * P) := by grind
    rw [this, id]; grind
theorem divide_spec (hp : PoS p n b) (hq : PoS q m c) (h0 : q.coefs.length ≠ 0) (hn : n ≤ 1000) (hm : m ≤ 1000) (hb : b ≤ 10000) (hc : c ≤ 10000) : v_divide p q ∧ ∃ Q R, q_divide p q = (Q, R) ∧ PoS Q n (b + b + (n + 1) * (c + 1)) ∧ PoS R (q.coefs.length - 1) (b + b + (n + 1) * (c + 1)) ∧ pv p = pv Q * pv q + pv R := by
  have l1 := hp.len
  have l2 := hq.len
  have m1 : (n + 1) * (c + 1) = n * (c + 1) + (c + 1) := Nat.succ_mul _ _
  have m2 : n * (c + 1) ≤ 1000 * 10001 := Nat.mul_le_mul hn (by omega)
  have gl : gt q.coefs ((q.coefs.length : Int) - 1) = co q.coefs (q.coefs.length - 1) := by
    rw [show (q.coefs.length : Int) - 1 = ((q.coefs.length - 1 : Nat) : Int) by omega, gt_co]
  have il : inR q.coefs ((q.coefs.length : Int) - 1) := by unfold inR; omega
  have zl : ((rngT 0 (((p.coefs.length : Int) - (q.coefs.length : Int)) + 1)).map fun (x2 : Int) => (0 : Int)) = List.replicate (p.coefs.length + 1 - q.coefs.length) 0 := by
    rw [rng_zeros]; congr 1; omega
  generalize hs : p.coefs.length + 1 - q.coefs.length = s at zl
  have ss : s ≤ n := by omega
  have lz : ((List.replicate s (0 : Int)).length : Int) = (s : Int) := by rw [List.length_replicate]
  have lp := forV_inv0 (V := fun (s11 : (List Int) × (List Int) × Int) (x12 : Int) => v_divide_7 p q (q.coefs.length : Int) (co q.coefs (q.coefs.length - 1)) s11.1 s11.2.1 s11.2.2 x12) (f := fun (s11 : (List Int) × (List Int) × Int) (x12 : Int) => q_divide_7 p q (q.coefs.length : Int) (co q.coefs (q.coefs.length - 1)) s11.1 s11.2.1 s11.2.2 x12) (xs := rngDT ((s : Int) - 1) (-1)) (s := (p.coefs, List.replicate s 0, 1))
    (fun i t => t.1.length = p.coefs.length ∧ t.2.1.length = s ∧ (∀ k, Sm (co t.1 k) (b + i * (c + 1))) ∧ (∀ k, Sm (co t.2.1 k) (b + i * (c + 1))) ∧ Sm t.2.2 (1 + i * c) ∧ t.2.2 ≠ 0 ∧ (∀ k, s - i + q.coefs.length - 1 ≤ k → co t.1 k = 0) ∧ ci t.2.2 * lv p.coefs = lv t.2.1 * lv q.coefs + lv t.1)
    ⟨rfl, by simp, fun k => by rw [Nat.zero_mul]; exact hp.c k, fun k => by rw [Nat.zero_mul]; show Sm (co (List.replicate s 0) k) _; rw [co_repl]; exact Sm.zero (by have := (hp.c 0).pos; omega), ⟨by rw [Nat.zero_mul]; show (1 : Nat) < _; decide, by omega⟩, (by show (1 : Int) ≠ 0; decide), fun k hk => by
      show co p.coefs k = 0
      exact co_ge (by omega), by
      show ci 1 * lv p.coefs = lv (List.replicate s 0) * lv q.coefs + lv p.coefs
      have z : lv (List.replicate s 0) = 0 := Ps.ext fun k => by rw [lv_cf, co_repl, Ps.zero_cf]; rfl
      rw [z, ci_one]; grind⟩ fun i x t hx ⟨t1, t2, t3, t4, t5, t6, t7, t8⟩ => by
      obtain ⟨hi, e⟩ := rngD_get hx
      obtain ⟨rest, quo, sc⟩ := t
      dsimp only at t1 t2 t3 t4 t5 t6 t7 t8
      have hi' : i < s := by omega
      have e' : x = ((s - 1 - i : Nat) : Int) := by omega
      subst e'
      have b1 : i * (c + 1) ≤ n * (c + 1) := Nat.mul_le_mul_right _ (by omega)
      have b2 : i * c ≤ i * (c + 1) := Nat.mul_le_mul_left _ (by omega)
      have b3 : (i + 1) * (c + 1) = i * (c + 1) + (c + 1) := Nat.succ_mul _ _
      have b4 : (i + 1) * c = i * c + c := Nat.succ_mul _ _
      obtain ⟨v, rest', quo', sc', eq, u1, u2, u3, u4, u5, u6, u7, u8⟩ := div_step (p := p) hq h0 (s := s) (j := s - 1 - i) (N := p.coefs.length) (by omega) t1 t2 (by omega) (by omega) (by omega) (by omega) (by omega) t3 t4 t5 t6 (fun k hk => t7 k (by omega)) t8
      refine ⟨v, ?_⟩
      show _ ∧ _
      dsimp only
      rw [eq]
      exact ⟨u1, u2, fun k => (u3 k).up (by omega), fun k => (u4 k).up (by omega), u5.up (by omega), u6, fun k hk => u7 k (by omega), u8⟩
  rw [rngD_length, show ((s : Int) - 1 - (-1)).toNat = s by omega] at lp
  obtain ⟨v, t1, t2, t3, t4, t5, t6, t7, t8⟩ := lp
  generalize hT : (rngDT ((s : Int) - 1) (-1)).foldl (fun (s11 : (List Int) × (List Int) × Int) (x12 : Int) => q_divide_7 p q (q.coefs.length : Int) (co q.coefs (q.coefs.length - 1)) s11.1 s11.2.1 s11.2.2 x12) (p.coefs, List.replicate s 0, 1) = T at t1 t2 t3 t4 t5 t6 t7 t8
  obtain ⟨rest, quo, sc⟩ := T
  dsimp only at t1 t2 t3 t4 t5 t6 t7 t8
  have b1 : s * (c + 1) ≤ n * (c + 1) := Nat.mul_le_mul_right _ (by omega)
  have b2 : s * c ≤ s * (c + 1) := Nat.mul_le_mul_left _ (by omega)
  have hd : sc * p.den ≠ 0 := Int.mul_ne_zero t6 hp.ne'
  have sd : Sm (sc * p.den) (b + b + (n + 1) * (c + 1)) := t5.mulUp hp.d (by omega)
  have cq : ∀ k, co (quo.map fun (x14 : Int) => (x14 * q.den)) k = co quo k * q.den := fun k => co_map (fun x => x * q.den) (by simp) _ k
  obtain ⟨vQ, sQ, eQ⟩ := (⟨by rw [List.length_map]; omega, fun k => by rw [cq]; exact (t4 k).mulUp hq.d (by omega)⟩ : LS (quo.map fun (x14 : Int) => (x14 * q.den)) n (b + b + (n + 1) * (c + 1))).po hd (by omega) sd
  obtain ⟨vR, sR, eR⟩ := (⟨by omega, fun k => (t3 k).up (by omega)⟩ : LS rest n (b + b + (n + 1) * (c + 1))).po hd (by omega) sd
  have zR : Ps.Bd (q.coefs.length - 1) (pv (q_Poly_init rest (sc * p.den))) := fun k hk => by
    have h1 : (lv rest).cf k = (ci (sc * p.den) * pv (q_Poly_init rest (sc * p.den))).cf k := by rw [eR]
    rw [lv_cf, t7 k (by omega), Ps.c_mul] at h1
    have := ic_ne hd
    have h2 : (0 : Rat) = ((sc * p.den : Int) : Rat) * (pv (q_Poly_init rest (sc * p.den))).cf k := h1
    grind
  have lR := pv_len sR zR
  have q15 : q_divide_15 p q (q.coefs.length : Int) (co q.coefs (q.coefs.length - 1)) p.coefs (List.replicate s 0) 1 = (rest, quo, sc) := by
    unfold q_divide_15; rw [lz]; exact hT
  have E : q_divide p q = (q_Poly_init (quo.map fun (x14 : Int) => (x14 * q.den)) (sc * p.den), q_Poly_init rest (sc * p.den)) := by
    show q_divide_2 p q (q.coefs.length : Int) = _
    unfold q_divide_2 q_divide_3 q_divide_4 q_divide_5 q_divide_6
    rw [gl, zl, q15]; rfl
  refine ⟨?_, _, _, E, sQ, ⟨sR.pos, sR.cop, sR.last, lR, sR.c, sR.d⟩, ?_⟩
  · refine ⟨by rw [po_zero]; exact decide_eq_false h0, il, ?_⟩
    rw [gl]
    refine ⟨rOk_of (by omega) (by omega), line_le (by rw [rngT_length]; omega), ?_⟩
    rw [zl]
    unfold v_divide_5 v_divide_6
    rw [q15, lz]
    exact ⟨rOk_of (by omega) (by omega), v, mulOk_sm t5 hp.d (by omega), fun x hx => mulOk_sm ((⟨Nat.le_refl _, t4⟩ : LS quo quo.length _).mem hx) hq.d (by omega), line_le (by show quo.length ≤ _; omega), vQ, vR⟩
  · refine ci_can hd ?_
    have e1 : ci (sc * p.den) * pv p = ci sc * lv p.coefs := by rw [pv_lv hp, ci_mul]; show _ = ci sc * (ci p.den * pv p); grind
    rw [e1, t8, eR, pv_lv hq]
    rw [lv_mapr] at eQ
    generalize pv (q_Poly_init (quo.map fun (x14 : Int) => (x14 * q.den)) (sc * p.den)) = QQ at eQ ⊢
    generalize pv (q_Poly_init rest (sc * p.den)) = RR
    show lv quo * (ci q.den * pv q) + _ = _
    grind
end
end Pd

set_option maxHeartbeats 2000000
/-! MxI: shifted polynomials. -/
namespace Pd
open PySem PySem.Spec L2
theorem syn_smc {s : Int} {c b : Nat} (hs : Sm s c) : ∀ (t : List Int), (∀ k, Sm (co t k) b) → ∀ k, Sm (co (syn s t) k) (b + (c + 1) * t.length)
  | [], h, k => by
    show Sm (co [] k) _
    rw [co_nil]
    exact Sm.zero (by have := (h 0).pos; omega)
  | a :: t, h, k => by
    have ih := syn_smc hs t fun k => h (k + 1)
    have e : (c + 1) * (a :: t).length = (c + 1) * t.length + (c + 1) := by rw [List.length_cons, Nat.mul_succ]
    rw [e]
    cases k with
    | zero =>
      show Sm (a + s * co (syn s t) 0) _
      have h0 : Sm a b := h 0
      exact h0.addUp2 (hs.mulUp (ih 0) (Nat.le_refl _)) (by omega) (by omega)
    | succ k => exact (ih k).up (by omega)
theorem shc_sm {s : Int} {c b : Nat} (hs : Sm s c) : ∀ (t : List Int), (∀ k, Sm (co t k) b) → ∀ k, Sm (shc s t k) (b + (c + 1) * t.length)
  | [], h, k => Sm.zero (by have := (h 0).pos; omega)
  | a :: t, h, k => by
    have ih := shc_sm hs t fun k => h (k + 1)
    have e : (c + 1) * (a :: t).length = (c + 1) * t.length + (c + 1) := by rw [List.length_cons, Nat.mul_succ]
    rw [e]
    have z := hs.mulUp (ih k) (Nat.le_refl _)
    cases k with
    | zero =>
      show Sm (a + s * shc s t 0) _
      have h0 : Sm a b := h 0
      exact h0.addUp2 z (by omega) (by omega)
    | succ k =>
      show Sm (shc s t k + s * shc s t (k + 1)) _
      exact (ih k).addUp2 z (by omega) (by omega)
section
variable {p : Po} {n b c : Nat} {s : Int}
/-- one round -/
theorem shift_round {L : List Int} {B N i : Nat} (hL : L.length = N) (hi : i < N) (hN : N ≤ 100000) (hB : ∀ k, Sm (co L k) B) (hs : Sm s c) (hb : B + (c + 1) * N + c ≤ 90000000) : v_Poly_shifted_2 p s L (i : Int) ∧ q_Poly_shifted_2 p s L (i : Int) = wj s L i := by
  have st0 : wj s L (N - 1) = L := wj_last s (n := N - 1) (by omega)
  have lp := forV_inv0 (V := fun (s1 : (List Int)) (x2 : Int) => v_Poly_shifted_3 p s s1 x2) (f := fun (s1 : (List Int)) (x2 : Int) => q_Poly_shifted_3 p s s1 x2) (xs := rngDT ((L.length : Int) - 2) ((i : Int) - 1)) (s := L)
    (fun m r => r = wj s L (N - 1 - m)) (by rw [Nat.sub_zero, st0]) fun m x r hx hr => by
      obtain ⟨hm, e⟩ := rngD_get hx
      have hm' : m < N - 1 - i := by omega
      have e' : x = ((N - 2 - m : Nat) : Int) := by omega
      subst e'
      subst hr
      have e1 : N - 1 - m = (N - 2 - m) + 1 := by omega
      rw [e1]
      have l1 := wj_len s L (N - 2 - m + 1)
      have ea : ((N - 2 - m : Nat) : Int) + 1 = ((N - 2 - m + 1 : Nat) : Int) := by omega
      have sm : Sm (co (wj s L (N - 2 - m + 1)) (N - 2 - m + 1)) (B + (c + 1) * N) := by
        rw [wj_co s L _ _ (by omega), if_neg (by omega)]
        have := syn_smc hs (L.drop (N - 2 - m + 1)) (b := B) (fun k => by rw [co_drop]; exact hB _) (N - 2 - m + 1 - (N - 2 - m + 1))
        exact this.up (Nat.add_le_add_left (Nat.mul_le_mul_left _ (by rw [List.length_drop]; omega)) _)
      refine ⟨⟨inR_nat (by omega), ?_, ?_, inR_nat (by omega)⟩, ?_⟩
      · rw [ea]; exact inR_nat (by omega)
      · rw [ea, gt_co]; exact mulOk_sm hs sm (by omega)
      · show setT _ _ (gt _ _ + s * gt _ _) = _
        rw [ea, gt_co, gt_co, setT_nat (by omega), wj_step s (by omega)]
        congr 1
        omega
  rw [rngD_length, show (((L.length : Int) - 2) - ((i : Int) - 1)).toNat = N - 1 - i by omega, show N - 1 - (N - 1 - i) = i by omega] at lp
  exact ⟨⟨rOk_of (by omega) (by omega), rOk_of (by omega) (by omega), lp.1⟩, lp.2⟩
theorem shift_list (hx : LS p.coefs n b) (hs : Sm s c) (hn : n ≤ 1000) (hb : b + (c + 1) * n * n + c ≤ 90000000) : rOk ((p.coefs.length : Int) - 1) = true ∧ forV (fun (s4 : (List Int)) (x5 : Int) => v_Poly_shifted_2 p s s4 x5) (fun (s4 : (List Int)) (x5 : Int) => q_Poly_shifted_2 p s s4 x5) (rngT 0 ((p.coefs.length : Int) - 1)) p.coefs ∧ (q_Poly_shifted_4 p s p.coefs).length = p.coefs.length ∧ ∀ k, co (q_Poly_shifted_4 p s p.coefs) k = shc s p.coefs k := by
  have l1 := hx.len
  have lp := forV_inv0 (V := fun (s4 : (List Int)) (x5 : Int) => v_Poly_shifted_2 p s s4 x5) (f := fun (s4 : (List Int)) (x5 : Int) => q_Poly_shifted_2 p s s4 x5) (xs := rngT 0 ((p.coefs.length : Int) - 1)) (s := p.coefs)
    (fun i L => L.length = p.coefs.length ∧ (∀ k, Sm (co L k) (b + i * ((c + 1) * n))) ∧ (∀ k, k < i → co L k = shc s p.coefs k) ∧ ∀ k, shc s p.coefs (i + k) = shc s (L.drop i) k) ⟨rfl, fun k => by rw [Nat.zero_mul]; exact hx.c k, fun k hk => by omega, fun k => by rw [Nat.zero_add, List.drop_zero]⟩ fun i x L hx2 ⟨h1, h2, h3, h4⟩ => by
      obtain ⟨hi, e⟩ := rngT_get hx2
      have e' : x = (i : Int) := by omega
      subst e'
      have m1 : i * ((c + 1) * n) + (c + 1) * n ≤ (c + 1) * n * n := by
        rw [← Nat.succ_mul, Nat.mul_comm ((c + 1) * n) n]
        exact Nat.mul_le_mul_right _ (by omega)
      have m2 : (c + 1) * p.coefs.length ≤ (c + 1) * n := Nat.mul_le_mul_left _ l1
      have m3 : (i + 1) * ((c + 1) * n) = i * ((c + 1) * n) + (c + 1) * n := Nat.succ_mul _ _
      obtain ⟨v, e⟩ := shift_round (p := p) (L := L) (N := p.coefs.length) (i := i) h1 (by omega) (by omega) h2 hs (by omega)
      refine ⟨v, ?_⟩
      show (q_Poly_shifted_2 p s L (i : Int)).length = _ ∧ _
      rw [e]
      obtain ⟨t1, t2⟩ := shc_syn s (L.drop i)
      refine ⟨by rw [wj_len, h1], fun k => ?_, fun k hk => ?_, fun k => ?_⟩
      · rw [wj_co s L i k (by omega)]
        split
        · exact (h2 k).up (by omega)
        · have := syn_smc hs (L.drop i) (b := b + i * ((c + 1) * n)) (fun k => by rw [co_drop]; exact h2 _) (k - i)
          have m4 : (c + 1) * (L.drop i).length ≤ (c + 1) * n := Nat.mul_le_mul_left _ (by rw [List.length_drop]; omega)
          exact this.up (by omega)
      · rw [wj_co s L i k (by omega)]
        by_cases hk' : k < i
        · rw [if_pos hk']; exact h3 k hk'
        · rw [if_neg hk', show k = i by omega, Nat.sub_self, ← t1]
          exact (h4 0).symm
      · rw [show i + 1 + k = i + (k + 1) by omega, h4 (k + 1), t2 k]
        congr 1
        unfold wj
        have z : (L.take i).drop (i + 1) = [] := List.drop_of_length_le (by rw [List.length_take]; omega)
        rw [List.drop_append, z, List.length_take, Nat.min_eq_left (by omega), show i + 1 - i = 1 by omega, List.nil_append, List.drop_one]
  obtain ⟨v, h1, h2, h3, h4⟩ := lp
  refine ⟨rOk_of (by omega) (by omega), v, h1, fun k => ?_⟩
  rw [rngT_length] at h3 h4
  generalize hT : (rngT 0 ((p.coefs.length : Int) - 1)).foldl (fun (s4 : (List Int)) (x5 : Int) => q_Poly_shifted_2 p s s4 x5) p.coefs = T at h1 h2 h3 h4
  have hT' : q_Poly_shifted_4 p s p.coefs = T := hT
  rw [hT']
  have ec : ((p.coefs.length : Int) - 1 - 0).toNat = p.coefs.length - 1 := by omega
  rw [ec] at h3 h4
  by_cases hk : k < p.coefs.length - 1
  · exact h3 k hk
  · by_cases hk2 : k < p.coefs.length
    · have hk3 : k = p.coefs.length - 1 := by omega
      have h5 := h4 0
      rw [Nat.add_zero, drop_cons (by omega), List.drop_of_length_le (by omega)] at h5
      rw [hk3, h5]
      show co T (p.coefs.length - 1) = co T (p.coefs.length - 1) + s * (0 : Int)
      rw [Int.mul_zero, Int.add_zero]
    · rw [co_ge (by omega), shc_ge s _ _ (by omega)]
theorem shifted_spec (hp : PoS p n b) (hs : Sm s c) (hn : n ≤ 1000) (hb : b + (c + 1) * n * n + c ≤ 90000000) : v_Poly_shifted p s ∧ PoS (q_Poly_shifted p s) n (b + (c + 1) * n) ∧ ∀ k, (pv (q_Poly_shifted p s)).cf k = (shc s p.coefs k : Rat) / (p.den : Rat) := by
  obtain ⟨h1, h2, h3, h4⟩ := shift_list hp.ls hs hn hb
  have l1 := hp.len
  have m1 : (c + 1) * p.coefs.length ≤ (c + 1) * n := Nat.mul_le_mul_left _ l1
  obtain ⟨v, s1, e⟩ := poly_mk (xs := q_Poly_shifted_4 p s p.coefs) (d := p.den) (n := n) (b := b + (c + 1) * n) hp.ne' (by omega) (by omega) (fun k => by rw [h4 k]; exact (shc_sm hs p.coefs hp.c k).up (by omega)) (hp.d.up (by omega))
  refine ⟨⟨h1, h2, v⟩, s1, fun k => ?_⟩
  show (pv (q_Poly_init (q_Poly_shifted_4 p s p.coefs) p.den)).cf k = _
  rw [e k, h4 k]
end
/-- shifting twice -/
theorem shF_comp (s t : Int) : ∀ (xs : List Int) (k : Nat), shF t (shc s xs) xs.length k = shc (s + t) xs k
  | [], k => rfl
  | a :: xs, k => by
    have ih := shF_comp s t xs
    have hz : ∀ i, xs.length ≤ i → shc s xs i = 0 := fun i hi => shc_ge s xs i hi
    have l1 := shF_lin t s (xs.length + 1) (fun i => (if i = 0 then a else 0) + 1 * sft (shc s xs) i) (shc s xs) (shc s (a :: xs)) k fun i => by
      cases i with
      | zero => show a + s * shc s xs 0 = a + 1 * 0 + s * shc s xs 0; omega
      | succ i => show shc s xs i + s * shc s xs (i + 1) = 0 + 1 * shc s xs i + s * shc s xs (i + 1); omega
    have l2 := shF_lin t 1 (xs.length + 1) (fun i => if i = 0 then a else 0) (sft (shc s xs)) (fun i => (if i = 0 then a else 0) + 1 * sft (shc s xs) i) k fun i => rfl
    have l3 := shF_sft t (shc s xs) xs.length k
    have l4 := shF_more t xs.length (shc s xs) k hz
    have l5 : shF t (fun i => if i = 0 then a else 0) (xs.length + 1) k = if k = 0 then a else 0 := by
      have z : ∀ k, shF t (fun i => if i + 1 = 0 then a else 0) xs.length k = 0 := fun k => shF_zero _ _ _ _ fun i => if_neg (by omega)
      cases k with
      | zero =>
        show a + t * shF t (fun i => if i + 1 = 0 then a else 0) xs.length 0 = a
        rw [z, Int.mul_zero, Int.add_zero]
      | succ k =>
        show shF t (fun i => if i + 1 = 0 then a else 0) xs.length k + t * shF t (fun i => if i + 1 = 0 then a else 0) xs.length (k + 1) = 0
        rw [z, z, Int.mul_zero, Int.add_zero]
    rw [List.length_cons, l1, l2, l3, l4, l5, ih]
    cases k with
    | zero =>
      show a + 1 * (0 + t * shc (s + t) xs 0) + s * shc (s + t) xs 0 = a + (s + t) * shc (s + t) xs 0
      generalize shc (s + t) xs 0 = x
      grind
    | succ k =>
      show 0 + 1 * (shF t (shc s xs) xs.length k + t * shc (s + t) xs (k + 1)) + s * shc (s + t) xs (k + 1) = shc (s + t) xs k + (s + t) * shc (s + t) xs (k + 1)
      rw [ih]
      generalize shc (s + t) xs (k + 1) = x
      generalize shc (s + t) xs k = y
      grind
end Pd

set_option maxHeartbeats 2000000
/-! MxJ: where a polynomial is settled; the law's own shift. -/
namespace Pd
open PySem PySem.Spec L2
/-- the constant is not 0 and no other has the opposite sign -/
def St (f : Nat → Int) : Prop := (0 < f 0 ∧ ∀ k, 0 ≤ f k) ∨ (f 0 < 0 ∧ ∀ k, f k ≤ 0)
theorem sgn {a b d e : Int} (h : a * d = b * e) (hd : 0 < d) (he : 0 < e) : (0 < a ↔ 0 < b) ∧ (a < 0 ↔ b < 0) := by
  have key : ∀ {a b d e : Int}, a * d = b * e → 0 < d → 0 < e → 0 < a → 0 < b := fun {a b d e} h hd he ha => by
    have h1 : 0 < b * e := by rw [← h]; exact Int.mul_pos ha hd
    rcases Int.lt_trichotomy b 0 with z | z | z
    · have := Int.mul_neg_of_neg_of_pos z he; omega
    · rw [z, Int.zero_mul] at h1; omega
    · exact z
  refine ⟨⟨key h hd he, key h.symm he hd⟩, ⟨fun ha => ?_, fun hb => ?_⟩⟩
  · have := key (a := -a) (b := -b) (by rw [Int.neg_mul, Int.neg_mul, h]) hd he (by omega); omega
  · have := key (a := -b) (b := -a) (by rw [Int.neg_mul, Int.neg_mul, h]) he hd (by omega); omega
theorem St.scale {f g : Nat → Int} {d e : Int} (h : ∀ k, f k * d = g k * e) (hd : 0 < d) (he : 0 < e) : St f ↔ St g := by
  have key : ∀ {f g : Nat → Int} {d e : Int}, (∀ k, f k * d = g k * e) → 0 < d → 0 < e → St f → St g := fun {f g d e} h hd he s => by
    rcases s with ⟨h0, h1⟩ | ⟨h0, h1⟩
    · refine .inl ⟨(sgn (h 0) hd he).1.mp h0, fun k => ?_⟩
      have := h1 k
      have := (sgn (h k) hd he).2
      omega
    · refine .inr ⟨(sgn (h 0) hd he).2.mp h0, fun k => ?_⟩
      have := h1 k
      have := (sgn (h k) hd he).1
      omega
  exact ⟨key h hd he, key (fun k => (h k).symm) he hd⟩
theorem shF_pos {t : Int} (ht : 0 ≤ t) : ∀ (n : Nat) (f : Nat → Int), (∀ k, 0 ≤ f k) → (∀ k, 0 ≤ shF t f n k) ∧ (0 < n → f 0 ≤ shF t f n 0)
  | 0, f, h => ⟨fun k => Int.le_refl _, fun z => by omega⟩
  | n + 1, f, h => by
    obtain ⟨i1, -⟩ := shF_pos ht n (fun i => f (i + 1)) fun k => h (k + 1)
    have m : ∀ k, 0 ≤ t * shF t (fun i => f (i + 1)) n k := fun k => Int.mul_nonneg ht (i1 k)
    refine ⟨fun k => ?_, fun _ => ?_⟩
    · cases k with
      | zero => have := h 0; have := m 0; show 0 ≤ f 0 + t * shF t (fun i => f (i + 1)) n 0; omega
      | succ k => have := i1 k; have := m (k + 1); show 0 ≤ shF t (fun i => f (i + 1)) n k + t * shF t (fun i => f (i + 1)) n (k + 1); omega
    · have := m 0; show f 0 ≤ f 0 + t * shF t (fun i => f (i + 1)) n 0; omega
theorem shF_negf (t : Int) (n : Nat) (f : Nat → Int) (k : Nat) : shF t (fun i => -f i) n k = -shF t f n k := by
  have := shF_lin t (-1) n (fun _ => 0) f (fun i => -f i) k fun i => by omega
  rw [this, shF_zero t n (fun _ => 0) k fun _ => rfl]; omega
theorem St.move {xs : List Int} {h t : Int} (s : St (shc h xs)) (ht : 0 ≤ t) : St (shc (h + t) xs) := by
  have hl : 0 < xs.length := by
    rcases Nat.eq_zero_or_pos xs.length with z | z
    · have := shc_ge h xs 0 (by omega)
      rcases s with ⟨h0, _⟩ | ⟨h0, _⟩ <;> omega
    · exact z
  rcases s with ⟨h0, h1⟩ | ⟨h0, h1⟩
  · obtain ⟨a, b⟩ := shF_pos ht xs.length (shc h xs) h1
    have b' := b hl
    rw [shF_comp] at b'
    exact .inl ⟨by omega, fun k => by rw [← shF_comp]; exact a k⟩
  · obtain ⟨a, b⟩ := shF_pos ht xs.length (fun i => -shc h xs i) fun k => by have := h1 k; omega
    have b' := b hl
    rw [shF_negf, shF_comp] at b'
    refine .inr ⟨by omega, fun k => ?_⟩
    have := a k
    rw [shF_negf, shF_comp] at this
    omega
def absS : List Int → Nat
  | [] => 0
  | a :: as => a.natAbs + absS as
theorem shc_big {h : Int} : ∀ (xs : List Int), xs ≠ [] → 0 < co xs (xs.length - 1) → (absS xs : Int) < h → ∀ k, k < xs.length → 1 ≤ shc h xs k
  | [], z, _, _, _, _ => absurd rfl z
  | [a], _, hl, hh, k, hk => by
    have hk0 : k = 0 := by simp at hk; omega
    subst hk0
    have : 0 < a := hl
    show 1 ≤ a + h * 0
    omega
  | a :: b :: ys, _, hl, hh, k, hk => by
    have hh' : ((absS (b :: ys) : Nat) : Int) < h := by
      have : absS (a :: b :: ys) = a.natAbs + absS (b :: ys) := rfl
      omega
    have ha : (a.natAbs : Int) < h := by
      have : absS (a :: b :: ys) = a.natAbs + absS (b :: ys) := rfl
      omega
    have ih := shc_big (b :: ys) (by simp) hl hh'
    have h1 : 1 ≤ h := by omega
    cases k with
    | zero =>
      show 1 ≤ a + h * shc h (b :: ys) 0
      have := ih 0 (by simp)
      have m : h * 1 ≤ h * shc h (b :: ys) 0 := Int.mul_le_mul_of_nonneg_left this (by omega)
      omega
    | succ k =>
      show 1 ≤ shc h (b :: ys) k + h * shc h (b :: ys) (k + 1)
      have h2 := ih k (by simpa using hk)
      by_cases hk2 : k + 1 < (b :: ys).length
      · have := ih (k + 1) hk2
        have m : 0 ≤ h * shc h (b :: ys) (k + 1) := Int.mul_nonneg (by omega) (by omega)
        omega
      · rw [shc_ge h (b :: ys) (k + 1) (by omega)]; omega
theorem absS_neg : ∀ xs : List Int, absS (xs.map fun x => -x) = absS xs
  | [] => rfl
  | a :: as => by
    show (-a).natAbs + absS (as.map fun x => -x) = _
    rw [absS_neg as, Int.natAbs_neg]; rfl
theorem absS_lt {b : Nat} : ∀ {xs : List Int}, (∀ k, Sm (co xs k) b) → absS xs < 2 ^ (b + xs.length)
  | [], h => Nat.two_pow_pos _
  | a :: as, h => by
    have ih := absS_lt (xs := as) fun k => h (k + 1)
    have h0 : a.natAbs < 2 ^ b := (h 0).lt
    have e : 2 ^ (b + (a :: as).length) = 2 ^ (b + as.length) + 2 ^ (b + as.length) := by
      rw [List.length_cons, ← Nat.add_assoc, Nat.pow_succ]; omega
    have m : 2 ^ b ≤ 2 ^ (b + as.length) := Nat.pow_le_pow_right (by decide) (by omega)
    rw [e]
    show a.natAbs + absS as < _
    omega
theorem St.big {xs : List Int} {h : Int} (hl : xs ≠ []) (hz : co xs (xs.length - 1) ≠ 0) (hh : (absS xs : Int) < h) : St (shc h xs) := by
  have lp : 0 < xs.length := List.length_pos_iff.mpr hl
  rcases Int.lt_or_gt_of_ne hz with z | z
  · have e : ∀ k, shc h xs k = -shc h (xs.map fun x => -x) k := fun k => by
      have := shc_lin h xs (xs.map fun x => -x) 1 (-1) (fun k => by rw [co_map (fun x => -x) (by simp)]; omega) k
      omega
    have hb := shc_big (h := h) (xs.map fun x => -x) (by simpa using hl) (by rw [List.length_map, co_map (fun x => -x) (by simp)]; omega) (by rw [absS_neg]; exact hh)
    rw [List.length_map] at hb
    refine .inr ⟨by rw [e]; have := hb 0 lp; omega, fun k => ?_⟩
    by_cases hk : k < xs.length
    · rw [e]; have := hb k hk; omega
    · rw [shc_ge h xs k (by omega)]; omega
  · have hb := shc_big xs hl z hh
    refine .inl ⟨by have := hb 0 lp; omega, fun k => ?_⟩
    by_cases hk : k < xs.length
    · have := hb k hk; omega
    · rw [shc_ge h xs k (by omega)]; omega
theorem minT_le : ∀ {xs : List Int} {a : Int}, (0 ≤ xs.foldl min a ↔ 0 ≤ a ∧ ∀ x ∈ xs, 0 ≤ x)
  | [], a => by simp
  | x :: xs, a => by
    have h : 0 ≤ min a x ↔ 0 ≤ a ∧ 0 ≤ x := by omega
    rw [List.foldl_cons, minT_le, h, and_assoc]
    simp only [List.mem_cons, forall_eq_or_imp]
theorem maxT_le : ∀ {xs : List Int} {a : Int}, (xs.foldl max a ≤ 0 ↔ a ≤ 0 ∧ ∀ x ∈ xs, x ≤ 0)
  | [], a => by simp
  | x :: xs, a => by
    have h : max a x ≤ 0 ↔ a ≤ 0 ∧ x ≤ 0 := by omega
    rw [List.foldl_cons, maxT_le, h, and_assoc]
    simp only [List.mem_cons, forall_eq_or_imp]
theorem all_co {xs : List Int} {P : Int → Prop} (h0 : P 0) : (∀ x ∈ xs, P x) ↔ ∀ k, P (co xs k) := by
  constructor
  · intro h k
    by_cases hk : k < xs.length
    · exact h _ (List.mem_of_getElem? (co_lt hk))
    · rw [co_ge (by omega)]; exact h0
  · intro h x hx
    obtain ⟨i, hi⟩ := List.getElem?_of_mem hx
    have := co_lt (List.getElem?_eq_some_iff.mp hi).1
    rw [hi] at this
    rw [Option.some.inj this]; exact h i
theorem is_settled_spec (p : Po) : v_is_settled p ∧ (q_is_settled p = true ↔ St (co p.coefs)) := by
  have hz := po_zero p
  by_cases h0 : p.coefs.length = 0
  · have hz1 : q_Poly_is_zero p = true := by rw [hz, decide_eq_true h0]
    refine ⟨⟨fun z => (by rw [hz1] at z; cases z), fun z => (by rw [hz1] at z; cases z)⟩, ?_⟩
    show (if (q_Poly_is_zero p || _) = true then false else _) = true ↔ _
    rw [hz1, Bool.true_or, if_pos rfl]
    refine ⟨(fun z => nomatch z), fun s => ?_⟩
    have := co_ge (xs := p.coefs) (k := 0) (by omega)
    rcases s with ⟨s, _⟩ | ⟨s, _⟩ <;> omega
  · have hne : p.coefs ≠ [] := fun e => h0 (by rw [e]; rfl)
    have hz1 : q_Poly_is_zero p = false := by rw [hz, decide_eq_false h0]
    have i0 : inR p.coefs (0 : Int) := inR_i (Int.le_refl _) (by omega)
    have g0 : gt p.coefs (0 : Int) = co p.coefs 0 := gt_co p.coefs 0
    refine ⟨⟨fun _ => i0, fun _ => ⟨i0, fun _ => hne, fun _ => hne⟩⟩, ?_⟩
    have m1 : (decide ((minT p.coefs) ≥ (0 : Int))) = true ↔ ∀ k, 0 ≤ co p.coefs k := by
      rw [decide_eq_true_iff, ← all_co (P := fun x => 0 ≤ x) (Int.le_refl _)]
      cases hc : p.coefs with
      | nil => exact absurd hc hne
      | cons a as =>
        show 0 ≤ as.foldl min a ↔ _
        rw [minT_le]; simp
    have m2 : (decide ((maxT p.coefs) ≤ (0 : Int))) = true ↔ ∀ k, co p.coefs k ≤ 0 := by
      rw [decide_eq_true_iff, ← all_co (P := fun x => x ≤ 0) (Int.le_refl _)]
      cases hc : p.coefs with
      | nil => exact absurd hc hne
      | cons a as =>
        show as.foldl max a ≤ 0 ↔ _
        rw [maxT_le]; simp
    show (if (q_Poly_is_zero p || decide (gt p.coefs (0 : Int) = 0)) = true then false else if decide (gt p.coefs (0 : Int) > 0) = true then decide ((minT p.coefs) ≥ (0 : Int)) else decide ((maxT p.coefs) ≤ (0 : Int))) = true ↔ _
    rw [hz1, g0, Bool.false_or]
    unfold St
    rcases Int.lt_trichotomy (co p.coefs 0) 0 with z | z | z
    · rw [if_neg (by simp; omega), if_neg (by simp; omega), m2]
      constructor
      · exact fun h => .inr ⟨z, h⟩
      · rintro (⟨h, _⟩ | ⟨_, h⟩)
        · omega
        · exact h
    · rw [if_pos (by simp [z])]
      constructor
      · exact fun h => nomatch h
      · rintro (⟨h, _⟩ | ⟨h, _⟩) <;> omega
    · rw [if_neg (by simp; omega), if_pos (by simp; omega), m1]
      constructor
      · exact fun h => .inl ⟨z, h⟩
      · rintro (⟨_, h⟩ | ⟨h, _⟩)
        · exact h
        · omega
theorem settled_at {p : Po} {n b c : Nat} {s : Int} (hp : PoS p n b) (hs : Sm s c) (hn : n ≤ 1000) (hb : b + (c + 1) * n * n + c ≤ 90000000) : v_Poly_shifted p s ∧ v_is_settled (q_Poly_shifted p s) ∧ (q_is_settled (q_Poly_shifted p s) = true ↔ St (shc s p.coefs)) := by
  obtain ⟨v, s1, e⟩ := shifted_spec hp hs hn hb
  obtain ⟨v2, e2⟩ := is_settled_spec (q_Poly_shifted p s)
  refine ⟨v, v2, e2.trans (St.scale (d := p.den) (e := (q_Poly_shifted p s).den) (fun k => ?_) hp.pos s1.pos)⟩
  have := e k
  exact (rat_div_eq s1.ne' hp.ne').mp this
/-- settled_from: the least settled number at or above start -/
theorem settled_spec {p : Po} {n b c : Nat} {start : Int} (hp : PoS p n b) (h0 : p.coefs ≠ []) (hs : Sm start c) (hn : n ≤ 1000) (hb : b + (b + n + c + 4 + 1) * n * n + (b + n + c + 4) ≤ 90000000) : v_settled_from p start ∧ start ≤ q_settled_from p start ∧ Sm (q_settled_from p start) (b + n + c + 4) ∧ St (shc (q_settled_from p start) p.coefs) ∧ (start < q_settled_from p start → ¬ St (shc (q_settled_from p start - 1) p.coefs)) := by
  have hlast := hp.last h0
  have hab := absS_lt hp.c
  have hl := hp.len
  have hX : 2 ^ (b + p.coefs.length) ≤ 2 ^ (b + n) := Nat.pow_le_pow_right (by decide) (by omega)
  have hst := hs.lt
  have cp := hs.pos
  have hD : 2 ^ (b + n + c + 4) = 16 * (2 ^ (b + n) * 2 ^ c) := by rw [← Nat.pow_add, show b + n + c + 4 = (b + n + c) + 4 by omega, Nat.pow_add]; omega
  have hXp : 0 < 2 ^ (b + n) := Nat.two_pow_pos _
  have hYp : 0 < 2 ^ c := Nat.two_pow_pos _
  have x1 : 2 ^ (b + n) ≤ 2 ^ (b + n) * 2 ^ c := Nat.le_mul_of_pos_right _ hYp
  have x2 : 2 ^ c ≤ 2 ^ (b + n) * 2 ^ c := Nat.le_mul_of_pos_left _ hXp
  generalize hXX : 2 ^ (b + n) = X at *
  generalize hYY : 2 ^ c = Y at *
  generalize hDD : b + n + c + 4 = D at *
  have Dp : 0 < D := by omega
  have inD : ∀ z : Int, start ≤ z → z ≤ start + 2 * (X + Y) → Sm z D := fun z h1 h2 => ⟨by rw [hD]; omega, Dp⟩
  have sett : ∀ z : Int, start ≤ z → z ≤ start + 2 * (X + Y) → v_Poly_shifted p z ∧ v_is_settled (q_Poly_shifted p z) ∧ (q_is_settled (q_Poly_shifted p z) = true ↔ St (shc z p.coefs)) := fun z h1 h2 => settled_at hp (inD z h1 h2) hn hb
  have far : ∀ z : Int, start + (X + Y) ≤ z → St (shc z p.coefs) := fun z hz => St.big h0 hlast (by omega)
  have hz0 : q_Poly_is_zero p = false := by
    rw [po_zero]; exact decide_eq_false fun e => h0 (List.length_eq_zero_iff.mp e)
  obtain ⟨u1, u2, u3⟩ := sett start (Int.le_refl _) (by omega)
  by_cases hS : St (shc start p.coefs)
  · have t : q_is_settled (q_Poly_shifted p start) = true := u3.mpr hS
    have E : q_settled_from p start = start := by
      show (if q_is_settled (q_Poly_shifted p start) = true then start else _) = start
      rw [if_pos t]
    rw [E]
    exact ⟨⟨hz0, u1, u2, fun z => (by rw [t] at z; cases z)⟩, Int.le_refl _, inD _ (Int.le_refl _) (by omega), hS, fun z => by omega⟩
  · have t : q_is_settled (q_Poly_shifted p start) = false := by
      cases h : q_is_settled (q_Poly_shifted p start) with
      | false => rfl
      | true => exact absurd (u3.mp h) hS
    -- the first loop
    have lp := whV_inv (t := fun (s3 : Int) => (!(q_is_settled (q_Poly_shifted p (start + s3))))) (Vt := fun (s3 : Int) => (v_Poly_shifted p (start + s3) ∧ v_is_settled (q_Poly_shifted p (start + s3)))) (f := fun (s3 : Int) => q_settled_from_5 p start s3) (V := fun (s3 : Int) => v_settled_from_5 p start s3)
      (fun m s => 1 ≤ s ∧ s ≤ 2 * (X + Y) ∧ (m : Int) = 2 * (X + Y) - s ∧ ¬ St (shc (start + s.fdiv 2) p.coefs)) (2 * (X + Y) - 1) (s := 1) ⟨by omega, by omega, by omega, by rw [show (1 : Int).fdiv 2 = 0 from rfl, Int.add_zero]; exact hS⟩ fun m s ⟨h1, h2, h3, h4⟩ => by
        obtain ⟨w1, w2, w3⟩ := sett (start + s) (by omega) (by omega)
        refine ⟨⟨w1, w2⟩, ?_⟩
        by_cases hq : St (shc (start + s) p.coefs)
        · left; rw [w3.mpr hq]; rfl
        · right
          have hs2 : s < X + Y := by
            by_cases z : s < X + Y
            · exact z
            · exact absurd (far _ (by omega)) hq
          have tf : q_is_settled (q_Poly_shifted p (start + s)) = false := by
            cases h : q_is_settled (q_Poly_shifted p (start + s)) with
            | false => rfl
            | true => exact absurd (w3.mp h) hq
          refine ⟨by rw [tf]; rfl, mulOk_sm (a := D) (b := 2) ⟨by rw [hD]; omega, Dp⟩ ⟨by decide, by decide⟩ (by omega), (2 * (X + Y) - s * 2).toNat, by omega, ?_⟩
          show 1 ≤ s * 2 ∧ s * 2 ≤ _ ∧ _ = 2 * ((X : Int) + Y) - s * 2 ∧ ¬ St (shc (start + (s * 2).fdiv 2) p.coefs)
          refine ⟨by omega, by omega, by omega, ?_⟩
          rw [Int.mul_fdiv_cancel _ (by decide)]; exact hq
    obtain ⟨v1, m1, ⟨h1, h2, h3, h4⟩, h5⟩ := lp
    generalize hW : wh (fun (s3 : Int) => (!(q_is_settled (q_Poly_shifted p (start + s3))))) (fun (s3 : Int) => q_settled_from_5 p start s3) 1 = w at *
    have hW' : q_settled_from_6 p start 1 = w := hW
    have hw : St (shc (start + w) p.coefs) := (sett (start + w) (by omega) (by omega)).2.2.mp (by simpa using h5)
    have hf := Int.fdiv_eq_ediv_of_nonneg w (b := 2) (by decide)
    -- the second loop
    have lp2 := whV_inv (t := fun (s6 : Int × Int) => (decide ((s6.2 - s6.1) > (1 : Int)))) (Vt := fun (s6 : Int × Int) => True) (f := fun (s6 : Int × Int) => q_settled_from_10 p s6.1 s6.2) (V := fun (s6 : Int × Int) => v_settled_from_10 p s6.1 s6.2)
      (fun m s => start ≤ s.1 ∧ s.1 < s.2 ∧ s.2 ≤ start + 2 * (X + Y) ∧ (m : Int) = s.2 - s.1 ∧ ¬ St (shc s.1 p.coefs) ∧ St (shc s.2 p.coefs)) (w - w.fdiv 2).toNat (s := (start + w.fdiv 2, start + w)) ⟨by show start ≤ start + _; omega, by show start + _ < start + w; omega, by show start + w ≤ _; omega, by show _ = (start + w) - (start + _); omega, h4, hw⟩ fun m s ⟨g1, g2, g3, g4, g5, g6⟩ => by
        refine ⟨trivial, ?_⟩
        obtain ⟨lo, hi⟩ := s
        dsimp only at g1 g2 g3 g4 g5 g6
        by_cases hd : hi - lo > 1
        · right
          have hf2 := Int.fdiv_eq_ediv_of_nonneg (lo + hi) (b := 2) (by decide)
          obtain ⟨w1, w2, w3⟩ := sett ((lo + hi).fdiv 2) (by omega) (by omega)
          refine ⟨decide_eq_true hd, ⟨w1, w2⟩, ?_⟩
          by_cases hq : St (shc ((lo + hi).fdiv 2) p.coefs)
          · refine ⟨((lo + hi).fdiv 2 - lo).toNat, by omega, ?_⟩
            have e : q_settled_from_10 p lo hi = (lo, (lo + hi).fdiv 2) := by
              show (if q_is_settled (q_Poly_shifted p ((lo + hi).fdiv 2)) = true then _ else _) = _
              rw [if_pos (w3.mpr hq)]; rfl
            dsimp only
            rw [e]
            exact ⟨g1, by show lo < _; omega, by show (lo + hi).fdiv 2 ≤ _; omega, by show _ = (lo + hi).fdiv 2 - lo; omega, g5, hq⟩
          · refine ⟨(hi - (lo + hi).fdiv 2).toNat, by omega, ?_⟩
            have e : q_settled_from_10 p lo hi = ((lo + hi).fdiv 2, hi) := by
              show (if q_is_settled (q_Poly_shifted p ((lo + hi).fdiv 2)) = true then _ else _) = _
              rw [if_neg fun z => hq (w3.mp z)]; rfl
            dsimp only
            rw [e]
            exact ⟨by show start ≤ (lo + hi).fdiv 2; omega, by show (lo + hi).fdiv 2 < hi; omega, g3, by show _ = hi - (lo + hi).fdiv 2; omega, hq, g6⟩
        · left; exact decide_eq_false hd
    obtain ⟨v2, m2, ⟨g1, g2, g3, g4, g5, g6⟩, g7⟩ := lp2
    generalize hR : wh (fun (s6 : Int × Int) => (decide ((s6.2 - s6.1) > (1 : Int)))) (fun (s6 : Int × Int) => q_settled_from_10 p s6.1 s6.2) (start + w.fdiv 2, start + w) = r at *
    obtain ⟨lo, hi⟩ := r
    dsimp only at g1 g2 g3 g4 g5 g6 g7
    have hd := of_decide_eq_false g7
    have hlo : hi - 1 = lo := by omega
    have E : q_settled_from p start = hi := by
      show (if q_is_settled (q_Poly_shifted p start) = true then start else q_settled_from_4 p start 1) = hi
      rw [if_neg (by rw [t]; decide)]
      unfold q_settled_from_4 q_settled_from_7 q_settled_from_8 q_settled_from_9 q_settled_from_14
      rw [hW', hR]; rfl
    rw [E]
    refine ⟨⟨hz0, u1, u2, fun _ => ⟨v1, ?_⟩⟩, by omega, inD _ (by omega) g3, g6, fun _ => by rw [hlo]; exact g5⟩
    rw [hW']
    exact v2
end Pd

set_option maxHeartbeats 2000000
/-! MxK: the law's own shift. -/
namespace Pd
open PySem PySem.Spec L2
theorem forVX_any {σ α β : Type} {V : σ → α → Prop} {f : σ → α → Fl σ σ β} (hv : ∀ s x, V s x) : ∀ (xs : List α) (s : σ), forVX V f xs s
  | [], _ => trivial
  | x :: xs, s => by
    refine ⟨hv _ _, ?_⟩
    split
    · exact forVX_any hv xs _
    · exact forVX_any hv xs _
    · trivial
theorem forX_test {α β τ : Type} {f : Unit → α → Fl Unit Unit β} {t : α → Bool} {r : β} (hf : ∀ x, f () x = if t x = true then .rt r else .nx ()) : ∀ xs : List α, (forX f xs () : Fl Unit τ β) = if xs.any t = true then .rt r else .nx ()
  | [] => rfl
  | x :: xs => by
    have ih := forX_test (τ := τ) hf xs
    unfold forX
    rw [hf x, List.any_cons]
    by_cases h : t x = true
    · rw [if_pos h, h, Bool.true_or, if_pos rfl]
    · rw [if_neg h]
      have h' : t x = false := by simpa using h
      rw [h', Bool.false_or]
      exact ih
theorem Tc_snoc (s : Int) (a : Int) : ∀ (xs : List Int) (j k : Nat), Tc s (xs ++ [a]) j k = Tc s xs j k + a * Pc s (j + xs.length) k
  | [], j, k => by
    show a * Pc s j k + 0 = 0 + a * Pc s (j + 0) k
    rw [Nat.add_zero]; omega
  | x :: xs, j, k => by
    have ih := Tc_snoc s a xs (j + 1) k
    show x * Pc s j k + Tc s (xs ++ [a]) (j + 1) k = x * Pc s j k + Tc s xs (j + 1) k + a * Pc s (j + (xs.length + 1)) k
    rw [ih, show j + 1 + xs.length = j + (xs.length + 1) by omega]; omega
theorem Pc_smc {s : Int} {c : Nat} (hs : Sm s c) : ∀ j k, Sm (Pc s j k) ((c + 1) * j + 1)
  | 0, k => by
    unfold Pc
    split
    · exact ⟨by rw [Nat.mul_zero]; decide, by omega⟩
    · exact ⟨by rw [Nat.mul_zero]; decide, by omega⟩
  | j + 1, k => by
    have ih := Pc_smc hs j
    have e : (c + 1) * (j + 1) = (c + 1) * j + (c + 1) := Nat.mul_succ _ _
    rw [e]
    have cp := hs.pos
    have h1 := hs.mulUp (ih k) (Nat.le_refl _)
    have h2 : Sm (sft (Pc s j) k) ((c + 1) * j + 1) := by
      cases k with
      | zero => exact Sm.zero (by omega)
      | succ k => exact ih k
    exact h1.addUp2 h2 (by omega) (by omega)
theorem Pc_zero (s : Int) : ∀ (j k : Nat), j < k → Pc s j k = 0
  | 0, k, h => if_neg (by omega)
  | j + 1, 0, h => by omega
  | j + 1, k + 1, h => by
    show s * Pc s j (k + 1) + Pc s j k = 0
    rw [Pc_zero s j (k + 1) (by omega), Pc_zero s j k (by omega)]; omega
theorem add_one {r r0 zs : List Int} {f : Int} {j : Nat} (h1 : r.length = r0.length) (h2 : ∀ k, co r k = co r0 k + (if k < j then f * co zs k else 0)) (hj : j < r.length) : (setT r (j : Int) (gt r (j : Int) + f * gt zs (j : Int))).length = r0.length ∧ ∀ k, co (setT r (j : Int) (gt r (j : Int) + f * gt zs (j : Int))) k = co r0 k + (if k < j + 1 then f * co zs k else 0) := by
  rw [setT_nat hj, gt_co, gt_co]
  refine ⟨by rw [List.length_set, h1], fun k => ?_⟩
  rw [co_set hj, h2 j]
  by_cases e : k = j
  · subst e
    rw [if_pos rfl, if_neg (by omega), if_pos (by omega)]; omega
  · rw [if_neg e, h2 k]
    by_cases l : k < j
    · rw [if_pos l, if_pos (by omega)]
    · rw [if_neg l, if_neg (by omega)]
theorem lshift_spec {xs : List Int} {s : Int} {n b c : Nat} (hx : LS xs n b) (hs : Sm s c) (hn : n ≤ 1000) (hb : b ≤ 10000000) (hc : (c + 1) * n ≤ 10000000) : v_law_shifted xs s ∧ (q_law_shifted xs s).length = xs.length ∧ ∀ k, co (q_law_shifted xs s) k = shc s xs k := by
  have l1 := hx.len
  have cp := hs.pos
  have zl : ((rngT 0 (xs.length : Int)).map fun (x1 : Int) => (0 : Int)) = List.replicate xs.length 0 := by
    rw [rng_zeros]; congr 1
  have cn : 2 * n ≤ (c + 1) * n := Nat.mul_le_mul_right _ (by omega)
  have cc : (c + 1) * n = c * n + n := Nat.succ_mul _ _
  have lp := forV_inv0 (V := fun (s6 : (List Int) × (List Int)) (x7 : Int) => v_law_shifted_3 s s6.1 s6.2 x7) (f := fun (s6 : (List Int) × (List Int)) (x7 : Int) => q_law_shifted_3 s s6.1 s6.2 x7) (xs := xs) (s := (List.replicate xs.length 0, [(1 : Int)]))
    (fun i t => t.1.length = xs.length ∧ (∀ k, k < xs.length → co t.1 k = Tc s (xs.take i) 0 k) ∧ t.2.length ≤ 1 + 2 * i ∧ ∀ k, co t.2 k = Pc s i k) ⟨by simp, fun k _ => by show co (List.replicate _ 0) k = 0; exact co_repl _ _, by simp, fun k => by
      cases k with
      | zero => rfl
      | succ k => show co [1] (k + 1) = _; rw [co_ge (by simp)]; rfl⟩ fun i x t hx2 ⟨h1, h2, h3, h4⟩ => by
      obtain ⟨r, pw⟩ := t
      dsimp only at h1 h2 h3 h4
      have hi : i < xs.length := (List.getElem?_eq_some_iff.mp hx2).1
      rw [co_lt hi] at hx2
      have ex := Option.some.inj hx2
      have sx : Sm x b := by rw [← ex]; exact hx.c _
      have c1 : c + 1 ≤ (c + 1) * n := Nat.le_mul_of_pos_right _ (by omega)
      have ci1 : (c + 1) * i + 1 ≤ (c + 1) * n := by
        have : (c + 1) * i + (c + 1) ≤ (c + 1) * n := by rw [← Nat.mul_succ]; exact Nat.mul_le_mul_left _ (by omega)
        omega
      have pls : LS pw (1 + 2 * i) ((c + 1) * n) := ⟨h3, fun k => by rw [h4]; exact (Pc_smc hs i k).up ci1⟩
      have tls : LS [s, (1 : Int)] 2 (c + 1) := ⟨Nat.le_refl _, fun k => by
        match k with
        | 0 => exact hs.up (by omega)
        | 1 => exact ⟨by show (1 : Int).natAbs < 2 ^ (c + 1); have : 2 ^ 1 ≤ 2 ^ (c + 1) := Nat.pow_le_pow_right (by decide) (by omega); omega, by omega⟩
        | k + 2 => rw [co_ge (by simp)]; exact Sm.zero (by omega)⟩
      obtain ⟨vp, lpw, ep⟩ := product_spec pls tls (by omega) (by omega) (by omega) (by omega)
      have inner := forV_inv0 (V := fun (s3 : (List Int)) (x4 : Int) => v_law_shifted_4 s s3 x4 pw x) (f := fun (s3 : (List Int)) (x4 : Int) => q_law_shifted_4 s s3 x4 pw x) (xs := rngT 0 (min (pw.length : Int) (r.length : Int))) (s := r)
        (fun j q => q.length = r.length ∧ ∀ k, co q k = co r k + (if k < j then x * co pw k else 0)) ⟨rfl, fun k => by rw [if_neg (by omega)]; omega⟩ fun j y q hy ⟨g1, g2⟩ => by
          obtain ⟨hj, ey⟩ := rngT_get hy
          have ey' : y = (j : Int) := by omega
          subst ey'
          have ir : inR q (j : Int) := inR_nat (by omega)
          refine ⟨⟨ir, inR_nat (by omega), ?_, ir⟩, add_one g1 g2 (by omega)⟩
          rw [gt_co]; exact mulOk_sm sx (pls.c j) (by omega)
      obtain ⟨vi, g1, g2⟩ := inner
      rw [rngT_length, show (min (pw.length : Int) (r.length : Int) - 0).toNat = min pw.length r.length by omega] at g2
      refine ⟨⟨rOk_of (by omega) (by omega), vi, vp⟩, ?_⟩
      show (q_law_shifted_5 s r pw x).length = xs.length ∧ (∀ k, k < xs.length → co (q_law_shifted_5 s r pw x) k = _) ∧ (q_law_product pw [s, 1]).length ≤ _ ∧ ∀ k, co (q_law_product pw [s, 1]) k = _
      refine ⟨g1.trans h1, fun k hk => ?_, ?_, fun k => ?_⟩
      · have e : co (q_law_shifted_5 s r pw x) k = _ := g2 k
        have lt : (xs.take i).length = i := by rw [List.length_take]; omega
        rw [e, h2 k hk, take_succ_co hi, Tc_snoc, lt, Nat.zero_add, ex, ← h4 k]
        split
        · rfl
        · rw [co_ge (xs := pw) (by omega)]; omega
      · have := lpw.len; omega
      · have h5 : (lv (q_law_product pw [s, 1])).cf k = (lv pw * lv [s, 1]).cf k := by rw [ep]
        rw [lv_mul, lv_cf] at h5
        rw [ic_eq h5, mulc_two]
        show s * co pw k + sft (co pw) k = s * Pc s i k + sft (Pc s i) k
        rw [h4]
        cases k with
        | zero => rfl
        | succ k => show _ + co pw k = _ + Pc s i k; rw [h4]
  obtain ⟨v, h1, h2, -, -⟩ := lp
  rw [List.take_length] at h2
  have E : q_law_shifted xs s = (xs.foldl (fun (s6 : (List Int) × (List Int)) (x7 : Int) => q_law_shifted_3 s s6.1 s6.2 x7) (List.replicate xs.length 0, [(1 : Int)])).1 := by
    rw [← zl]; rfl
  refine ⟨⟨rOk_nat (by omega), line_le (by rw [rngT_length]; omega), ?_⟩, by rw [E]; exact h1, fun k => ?_⟩
  · rw [zl]; exact v
  · rw [E]
    by_cases hk : k < xs.length
    · rw [h2 k hk, Tc_shc]
    · rw [co_ge (by omega), shc_ge s xs k (by omega)]
end Pd

set_option maxHeartbeats 2000000
/-! MxL: ==, lead, coefficients, polynomials of fractions. -/
namespace Pd
open PySem PySem.Spec L2
theorem poly_eq {p q : Po} {n b m c : Nat} (hp : PoS p n b) (hq : PoS q m c) : q_Poly_eq p q = true ↔ pv p = pv q := by
  show (true && (decide (p.coefs = q.coefs) && decide (p.den = q.den))) = true ↔ _
  rw [Bool.true_and, Bool.and_eq_true, decide_eq_true_iff, decide_eq_true_iff]
  constructor
  · rintro ⟨h1, h2⟩
    obtain ⟨c1, d1⟩ := p
    obtain ⟨c2, d2⟩ := q
    dsimp only at h1 h2
    subst h1; subst h2; rfl
  · intro h
    have := pv_inj hp hq fun k => by rw [h]
    subst this
    exact ⟨rfl, rfl⟩
section
variable {p : Po} {n b : Nat}
theorem lead_spec (hp : PoS p n b) : v_Poly_lead p ∧ FrS (q_Poly_lead p) b ∧ fv (q_Poly_lead p) = (pv p).cf (p.coefs.length - 1) := by
  by_cases h0 : p.coefs.length = 0
  · obtain ⟨v, s, e⟩ := frac_mk (n := 0) (d := 1) (b := b) (by decide) (Sm.zero (hp.c 0).pos) ⟨by have := (hp.c 0).pos; show 1 < 2 ^ b; exact Nat.one_lt_two_pow (by omega), (hp.c 0).pos⟩
    have hd : decide ((p.coefs.length : Int) = 0) = true := decide_eq_true (by omega)
    refine ⟨⟨fun _ => v, fun z => (by rw [hd] at z; cases z)⟩, ?_, ?_⟩
    · show FrS (if decide ((p.coefs.length : Int) = 0) = true then q_Fraction_init 0 1 else q_Poly_lead_2 p) b
      rw [if_pos hd]; exact s
    · show fv (if decide ((p.coefs.length : Int) = 0) = true then q_Fraction_init 0 1 else q_Poly_lead_2 p) = (co p.coefs _ : Rat) / p.den
      rw [if_pos hd, e, co_ge (by omega), show ((0 : Int) : Rat) = 0 from rfl]; grind
  · have hd : decide ((p.coefs.length : Int) = 0) = false := decide_eq_false (by omega)
    have hg : gt p.coefs (-(1 : Int)) = co p.coefs (p.coefs.length - 1) := by
      rw [show (-(1 : Int)) = -1 from rfl, gt_neg (by omega)]
      have := co_lt (xs := p.coefs) (k := p.coefs.length - 1) (by omega)
      rw [List.getElem?_eq_getElem (by omega)] at this
      exact Option.some.inj this
    obtain ⟨v, s, e⟩ := frac_mk (n := co p.coefs (p.coefs.length - 1)) (d := p.den) (b := b) hp.ne' (hp.c _) hp.d
    refine ⟨⟨fun z => (by rw [hd] at z; cases z), fun _ => ⟨inR_neg (by omega), by rw [hg]; exact v⟩⟩, ?_, ?_⟩
    · show FrS (if decide ((p.coefs.length : Int) = 0) = true then q_Poly_lead_1 else q_Fraction_init (gt p.coefs (-(1 : Int))) p.den) b
      rw [if_neg (by rw [hd]; decide), hg]; exact s
    · show fv (if decide ((p.coefs.length : Int) = 0) = true then q_Poly_lead_1 else q_Fraction_init (gt p.coefs (-(1 : Int))) p.den) = (co p.coefs _ : Rat) / p.den
      rw [if_neg (by rw [hd]; decide), hg, e]
theorem coef_spec (hp : PoS p n b) (i : Int) : v_Poly_coefficient p i ∧ FrS (q_Poly_coefficient p i) b ∧ fv (q_Poly_coefficient p i) = if 0 ≤ i then (pv p).cf i.toNat else 0 := by
  by_cases h : 0 ≤ i ∧ i < p.coefs.length
  · obtain ⟨k, rfl⟩ := Int.eq_ofNat_of_zero_le h.1
    have hd : ((decide ((0 : Int) ≤ (k : Int))) && (decide ((k : Int) < (p.coefs.length : Int)))) = true := by simp; omega
    obtain ⟨v, s, e⟩ := frac_mk (n := co p.coefs k) (d := p.den) (b := b) hp.ne' (hp.c _) hp.d
    refine ⟨⟨fun _ => ⟨inR_nat (by omega), by rw [gt_co]; exact v⟩, fun z => (by rw [hd] at z; cases z)⟩, ?_, ?_⟩
    · show FrS (if ((decide ((0 : Int) ≤ (k : Int))) && (decide ((k : Int) < (p.coefs.length : Int)))) = true then q_Fraction_init (gt p.coefs (k : Int)) p.den else q_Poly_coefficient_2) b
      rw [if_pos hd, gt_co]; exact s
    · show fv (if ((decide ((0 : Int) ≤ (k : Int))) && (decide ((k : Int) < (p.coefs.length : Int)))) = true then q_Fraction_init (gt p.coefs (k : Int)) p.den else q_Poly_coefficient_2) = _
      rw [if_pos hd, gt_co, e, if_pos (by omega)]; rfl
  · have hd : ((decide ((0 : Int) ≤ i)) && (decide (i < (p.coefs.length : Int)))) = false := by
      cases hb : ((decide ((0 : Int) ≤ i)) && (decide (i < (p.coefs.length : Int)))) with
      | false => rfl
      | true => simp at hb; exact absurd hb h
    obtain ⟨v, s, e⟩ := frac_mk (n := 0) (d := 1) (b := b) (by decide) (Sm.zero (hp.c 0).pos) ⟨by have := (hp.c 0).pos; show 1 < 2 ^ b; exact Nat.one_lt_two_pow (by omega), (hp.c 0).pos⟩
    refine ⟨⟨fun z => (by rw [hd] at z; cases z), fun _ => v⟩, ?_, ?_⟩
    · show FrS (if ((decide ((0 : Int) ≤ i)) && (decide (i < (p.coefs.length : Int)))) = true then q_Poly_coefficient_1 p i else q_Fraction_init 0 1) b
      rw [if_neg (by rw [hd]; decide)]; exact s
    · show fv (if ((decide ((0 : Int) ≤ i)) && (decide (i < (p.coefs.length : Int)))) = true then q_Poly_coefficient_1 p i else q_Fraction_init 0 1) = _
      rw [if_neg (by rw [hd]; decide), e, show ((0 : Int) : Rat) = 0 from rfl]
      by_cases hi : 0 ≤ i
      · rw [if_pos hi]
        show _ = (co p.coefs _ : Rat) / p.den
        rw [co_ge (by omega), show ((0 : Int) : Rat) = 0 from rfl]; grind
      · rw [if_neg hi]; grind
end
/-! ### polynomials of fractions -/
def fc (row : List Fr) (k : Nat) : Rat := match row[k]? with
  | some x => fv x
  | none => 0
theorem lcmOk_sm {i j : Int} (h : Sm i 12000) (k : Sm j 12000) : lcmOk i j = true := by
  have key : ∀ x : Int, Sm x 12000 → x.natAbs.log2 < 13000 := fun x hx => by
    by_cases z : x.natAbs = 0
    · rw [z]; decide
    · have := (Nat.log2_lt z).mpr hx.lt
      omega
  unfold lcmOk
  rw [decide_eq_true (key i h), decide_eq_true (key j k)]; rfl
theorem fromFr_spec {row : List Fr} {n b : Nat} (hl : row.length ≤ n) (hr : ∀ x ∈ row, FrS x b) (hn : n ≤ 1000) (hb : 1 + n * b ≤ 10000) (bp : 0 < b) (hb2 : b ≤ 10000) : v_from_fractions row ∧ PoS (q_from_fractions row) n (b + (1 + n * b)) ∧ ∀ k, (pv (q_from_fractions row)).cf k = fc row k := by
  have lp := forV_inv0 (V := fun (s1 : Int) (x2 : Fr) => v_from_fractions_2 row s1 x2) (f := fun (s1 : Int) (x2 : Fr) => q_from_fractions_2 row s1 x2) (xs := row) (s := 1)
    (fun i s => 0 < s ∧ Sm s (1 + i * b) ∧ ∀ j x, j < i → row[j]? = some x → x.den ∣ s) ⟨by decide, ⟨by rw [Nat.zero_mul]; decide, by omega⟩, fun j x hj => by omega⟩ fun i x s hx ⟨h1, h2, h3⟩ => by
      have hi : i < row.length := (List.getElem?_eq_some_iff.mp hx).1
      have fx := hr x (List.mem_of_getElem? hx)
      have m1 : (i + 1) * b = i * b + b := Nat.succ_mul _ _
      have m2 : i * b + b ≤ n * b := by rw [← Nat.succ_mul]; exact Nat.mul_le_mul_right _ (by omega)
      have hlcm : (Int.lcm s x.den : Int) ≠ 0 := by
        have := Int.lcm_pos (show s ≠ 0 by omega) (show x.den ≠ 0 by have := fx.pos; omega)
        omega
      refine ⟨lcmOk_sm (h2.up (by omega)) (fx.d.up (by omega)), ?_⟩
      show 0 < (Int.lcm s x.den : Int) ∧ Sm (Int.lcm s x.den : Int) (1 + (i + 1) * b) ∧ ∀ j y, j < i + 1 → row[j]? = some y → y.den ∣ (Int.lcm s x.den : Int)
      refine ⟨by omega, ?_, fun j y hj hy => ?_⟩
      · have hle : (Int.lcm s x.den : Int).natAbs ≤ (s * x.den).natAbs := by
          rw [Int.natAbs_mul, Int.natAbs_natCast]
          exact Nat.le_of_dvd (Nat.mul_pos (by omega) (by have := fx.pos; omega)) (Nat.lcm_dvd_mul _ _)
        exact (h2.mulUp fx.d (c := 1 + (i + 1) * b) (by omega)).le hle
      · by_cases e : j < i
        · exact Int.dvd_trans (h3 j y e hy) (Int.dvd_lcm_left ..)
        · have : j = i := by omega
          subst this
          rw [hx] at hy
          cases hy
          exact Int.dvd_lcm_right ..
  obtain ⟨v, h1, h2, h3⟩ := lp
  generalize hD : row.foldl (fun (s1 : Int) (x2 : Fr) => q_from_fractions_2 row s1 x2) 1 = D at h1 h2 h3
  have hD' : q_from_fractions_3 row 1 = D := hD
  have m1 : row.length * b ≤ n * b := Nat.mul_le_mul_right _ hl
  have dv : ∀ x ∈ row, x.den ∣ D := fun x hx => by
    obtain ⟨j, hj⟩ := List.getElem?_of_mem hx
    exact h3 j x (List.getElem?_eq_some_iff.mp hj).1 hj
  have qs : ∀ x ∈ row, Sm (D.fdiv x.den) (1 + n * b) ∧ D.fdiv x.den * x.den = D := fun x hx => by
    have fx := (hr x hx).pos
    have e := fdiv_mul_of_dvd (by omega) (dv x hx)
    exact ⟨(h2.up (by omega)).le (natAbs_le_of_mul e (by omega)), e⟩
  have cc : ∀ k, (∃ x, row[k]? = some x ∧ co (row.map fun (x4 : Fr) => (x4.num * (Int.fdiv D x4.den))) k = x.num * (Int.fdiv D x.den)) ∨ (row[k]? = none ∧ co (row.map fun (x4 : Fr) => (x4.num * (Int.fdiv D x4.den))) k = 0) := fun k => by
    by_cases hk : k < row.length
    · left
      refine ⟨row[k], List.getElem?_eq_getElem hk, ?_⟩
      have h := co_lt (xs := row.map fun (x4 : Fr) => (x4.num * (Int.fdiv D x4.den))) (k := k) (by rw [List.length_map]; exact hk)
      rw [List.getElem?_map, List.getElem?_eq_getElem hk] at h
      exact (Option.some.inj h).symm
    · exact .inr ⟨List.getElem?_eq_none (by omega), co_ge (by rw [List.length_map]; omega)⟩
  obtain ⟨w, s, e⟩ := poly_mk (xs := row.map fun (x4 : Fr) => (x4.num * (Int.fdiv D x4.den))) (d := D) (n := n) (b := b + (1 + n * b)) (by omega) (by rw [List.length_map]; exact hl) (by omega) (fun k => by
    rcases cc k with ⟨x, hx, ex⟩ | ⟨hx, ex⟩
    · rw [ex]
      have hm := List.mem_of_getElem? hx
      exact (hr x hm).n.mulUp (qs x hm).1 (by omega)
    · rw [ex]; exact Sm.zero (by omega)) (h2.up (by omega))
  have E : q_from_fractions row = q_Poly_init (row.map fun (x4 : Fr) => (x4.num * (Int.fdiv D x4.den))) D := by
    show q_from_fractions_4 row (q_from_fractions_3 row 1) = _
    rw [hD']; rfl
  refine ⟨⟨v, ?_⟩, by rw [E]; exact s, fun k => ?_⟩
  · rw [hD']
    exact ⟨fun x hx => ⟨by have := (hr x hx).pos; omega, mulOk_sm (hr x hx).n (qs x hx).1 (by omega)⟩, line_le (by omega), w⟩
  · rw [E, e k]
    unfold fc
    rcases cc k with ⟨x, hx, ex⟩ | ⟨hx, ex⟩
    · rw [hx, ex]
      have hm := List.mem_of_getElem? hx
      have h4 := (qs x hm).2
      have h5 : (D : Rat) = ((D.fdiv x.den : Int) : Rat) * x.den := by rw [← Rat.intCast_mul, h4]
      have h6 := (hr x hm).ne
      have h7 : (D : Rat) ≠ 0 := ic_ne (by omega)
      show ((x.num * D.fdiv x.den : Int) : Rat) / D = (x.num : Rat) / x.den
      rw [Rat.intCast_mul]
      generalize ((D.fdiv x.den : Int) : Rat) = q at *
      rw [h5] at h7 ⊢
      grind
    · rw [hx, ex, show ((0 : Int) : Rat) = 0 from rfl]
      grind
end Pd

set_option maxHeartbeats 2000000
/-! MxM: whole roots of polynomials. -/
namespace Pd
open PySem PySem.Spec L2
theorem hz_shc (x : Int) : ∀ xs : List Int, shc x xs 0 = hz x xs
  | [] => rfl
  | a :: as => by
    show a + x * shc x as 0 = a + x * hz x as
    rw [hz_shc x as]
def mkL (n : Nat) (f : Nat → Int) : List Int := (List.range n).map f
theorem mkL_len (n : Nat) (f : Nat → Int) : (mkL n f).length = n := by simp [mkL]
theorem mkL_co {n : Nat} {f : Nat → Int} (h : ∀ k, n ≤ k → f k = 0) (k : Nat) : co (mkL n f) k = f k := by
  by_cases hk : k < n
  · have := co_lt (xs := mkL n f) (k := k) (by rw [mkL_len]; exact hk)
    unfold mkL at this
    rw [List.getElem?_map, List.getElem?_range hk] at this
    exact (Option.some.inj this).symm
  · rw [co_ge (by rw [mkL_len]; omega), h k (by omega)]
/-- shifting what is, up to a factor, a shifted list -/
theorem shc_again {s t d e : Int} {xs ys : List Int} (h : ∀ k, co ys k * d = shc s xs k * e) (k : Nat) : shc t ys k * d = shc (s + t) xs k * e := by
  have hz : ∀ k, xs.length ≤ k → shc s xs k = 0 := fun k hk => shc_ge s xs k hk
  have h1 := shc_lin t ys (mkL xs.length (shc s xs)) d e (fun k => by rw [mkL_co hz]; exact h k) k
  rw [h1, shc_shF, mkL_len, show co (mkL xs.length (shc s xs)) = shc s xs from funext (mkL_co hz), shF_comp]
/-- a root -/
def Rt (p : Po) (r : Int) : Prop := shc r p.coefs 0 = 0
theorem rt_hz {p : Po} {r : Int} : Rt p r ↔ hz r p.coefs = 0 := by unfold Rt; rw [hz_shc]
def hzA (h : Int) : List Int → Int
  | [] => 0
  | a :: as => ((a.natAbs : Int) + hzA h as) * h
theorem hzA_pos {h : Int} (hh : 0 ≤ h) : ∀ xs, 0 ≤ hzA h xs
  | [] => Int.le_refl _
  | a :: as => Int.mul_nonneg (by have := hzA_pos hh as; omega) hh
theorem hzA_le {h t : Int} (h0 : 0 ≤ t) (h1 : t ≤ h) : ∀ xs : List Int, ((t * hz t xs).natAbs : Int) ≤ hzA h xs
  | [] => by show ((t * 0).natAbs : Int) ≤ 0; rw [Int.mul_zero]; simp
  | a :: as => by
    have ih := hzA_le h0 h1 as
    show ((t * (a + t * hz t as)).natAbs : Int) ≤ ((a.natAbs : Int) + hzA h as) * h
    have e1 : ((t * (a + t * hz t as)).natAbs : Int) = ((a + t * hz t as).natAbs : Int) * t := by
      rw [Int.natAbs_mul, Int.natCast_mul, Int.mul_comm]
      congr 1
      omega
    have e2 : ((a + t * hz t as).natAbs : Int) ≤ (a.natAbs : Int) + hzA h as := by omega
    rw [e1]
    exact Int.le_trans (Int.mul_le_mul_of_nonneg_right e2 h0) (Int.mul_le_mul_of_nonneg_left h1 (by have := hzA_pos (h := h) (by omega) as; omega))
theorem hzA_zero : ∀ xs : List Int, hzA 0 xs = 0
  | [] => rfl
  | a :: as => Int.mul_zero _
theorem hzA_sm {h : Int} {b c : Nat} (hh : Sm h c) : ∀ {xs : List Int}, (∀ k, Sm (co xs k) b) → Sm (hzA h xs) (b + (c + 1) * xs.length)
  | [], hx => Sm.zero (by have := (hx 0).pos; omega)
  | a :: as, hx => by
    have ih := hzA_sm hh (xs := as) fun k => hx (k + 1)
    have h0 : Sm a b := hx 0
    have e : (c + 1) * (a :: as).length = (c + 1) * as.length + (c + 1) := by rw [List.length_cons, Nat.mul_succ]
    rw [e]
    have s1 : Sm ((a.natAbs : Int) + hzA h as) (b + (c + 1) * as.length + 1) := h0.abs.addUp2 ih (by omega) (by omega)
    exact s1.mulUp hh (by omega)
section
variable {p : Po} {n b c : Nat}
theorem mayRoot_spec {lo hi : Int} (hp : PoS p n b) (h0 : p.coefs ≠ []) (hl : Sm lo c) (hh : Sm (hi - lo) c) (hle : lo ≤ hi) (hn : n ≤ 1000) (hb : b + (c + 1) * n * n + c ≤ 30000000) (hb2 : b + (c + 1) * n + (c + 1) * n + c ≤ 30000000) :
    v_may_have_root p lo hi ∧ ((∃ r, lo ≤ r ∧ r ≤ hi ∧ Rt p r) → q_may_have_root p lo hi = true) ∧ (lo = hi → q_may_have_root p lo hi = true → Rt p lo) := by
  obtain ⟨v, s1, e⟩ := shifted_spec hp hl hn (by omega)
  have hc : ∀ k, co (q_Poly_shifted p lo).coefs k * p.den = shc lo p.coefs k * (q_Poly_shifted p lo).den := fun k => (rat_div_eq s1.ne' hp.ne').mp (e k)
  have hnz : (q_Poly_shifted p lo).coefs ≠ [] := fun z => by
    have hlast := hp.last h0
    have h1 : ∀ k, shc lo p.coefs k = 0 := fun k => by
      have := hc k
      rw [z, co_nil, Int.zero_mul] at this
      exact (Int.mul_eq_zero.mp this.symm).resolve_right s1.ne'
    have h2 := shF_comp lo (-lo) p.coefs (p.coefs.length - 1)
    rw [shF_zero _ _ _ _ h1, show lo + -lo = 0 by omega, shc_0] at h2
    exact hlast h2.symm
  have sp := s1.pos
  have pp := hp.pos
  have rt : ∀ t, Rt p (lo + t) ↔ hz t (q_Poly_shifted p lo).coefs = 0 := fun t => by
    have h1 := shc_again (t := t) hc 0
    rw [hz_shc] at h1
    unfold Rt
    constructor
    · intro h2
      rw [h2, Int.zero_mul] at h1
      exact (Int.mul_eq_zero.mp h1).resolve_right (by omega)
    · intro h2
      rw [h2, Int.zero_mul] at h1
      exact (Int.mul_eq_zero.mp h1.symm).resolve_right (by omega)
  show (v_Poly_shifted p lo ∧ v_may_have_root_1 lo hi (q_Poly_shifted p lo).coefs) ∧ (_ → q_may_have_root_1 lo hi (q_Poly_shifted p lo).coefs = true) ∧ (_ → q_may_have_root_1 lo hi (q_Poly_shifted p lo).coefs = true → _)
  have slen := s1.len
  have sc := s1.c
  generalize (q_Poly_shifted p lo).coefs = cs at *
  cases cs with
  | nil => exact absurd rfl hnz
  | cons a0 ys =>
    have ecut : cutT (a0 :: ys) (some (1 : Int)) none = ys := by
      have := cut_drop (xs := a0 :: ys) (n := 1) (by simp)
      exact this
    have yc : ∀ k, Sm (co ys k) (b + (c + 1) * n) := fun k => sc (k + 1)
    have yl : ys.length ≤ n := by simp at slen; omega
    have hpart : part (a0 :: ys) (some (1 : Int)) none := fun h => by
      have h1 : HT.sIx (a0 :: ys).length 0 (some (1 : Int)) = 1 := by
        have := HT.sIx_nat (a0 :: ys).length 0 1
        rw [show ((1 : Nat) : Int) = 1 from rfl] at this
        rw [this]
        simp
      omega
    have lp := forV_inv0 (V := fun (s1 : Int) (x2 : Int) => v_may_have_root_3 lo hi (a0 :: ys) s1 x2) (f := fun (s1 : Int) (x2 : Int) => q_may_have_root_3 lo hi (a0 :: ys) s1 x2) (xs := ys.reverse) (s := 0)
      (fun i t => t = hzA (hi - lo) (ys.drop (ys.length - i))) (by rw [Nat.sub_zero, List.drop_length]; rfl) fun i y t hy ht => by
        obtain ⟨hi2, ey⟩ := rev_at hy
        rw [co_lt (by omega)] at ey
        have ey := Option.some.inj ey
        have ds := drop_cons (xs := ys) (j := ys.length - 1 - i) (by omega)
        rw [show ys.length - 1 - i + 1 = ys.length - i by omega, ey] at ds
        have sz := hzA_sm (h := hi - lo) hh (xs := ys.drop (ys.length - i)) (b := b + (c + 1) * n) fun k => by rw [co_drop]; exact yc _
        rw [← ht] at sz
        have m1 : (c + 1) * (ys.drop (ys.length - i)).length ≤ (c + 1) * n := Nat.mul_le_mul_left _ (by rw [List.length_drop]; omega)
        have sy : Sm y (b + (c + 1) * n) := by rw [← ey]; exact yc _
        have ss : Sm (t + (y.natAbs : Int)) (b + (c + 1) * n + (c + 1) * n + 1) := (sz.up (b := b + (c + 1) * n + (c + 1) * n) (by omega)).addUp2 sy.abs (by omega) (by omega)
        refine ⟨mulOk_sm ss hh (by omega), ?_⟩
        show (t + (y.natAbs : Int)) * (hi - lo) = hzA (hi - lo) (ys.drop (ys.length - (i + 1)))
        rw [show ys.length - (i + 1) = ys.length - 1 - i by omega, ds, ht, Int.add_comm]; rfl
    rw [List.length_reverse, Nat.sub_self, List.drop_zero] at lp
    obtain ⟨vf, ef⟩ := lp
    have g0 : gt (a0 :: ys) (0 : Int) = a0 := gt_co (a0 :: ys) 0
    have i0 : inR (a0 :: ys) (0 : Int) := inR_i (Int.le_refl _) (by simp)
    have eq4 : q_may_have_root_4 lo hi (a0 :: ys) 0 = hzA (hi - lo) ys := by
      unfold q_may_have_root_4
      rw [ecut]; exact ef
    have E : q_may_have_root_1 lo hi (a0 :: ys) = decide (((a0.natAbs : Nat) : Int) ≤ hzA (hi - lo) ys) := by
      unfold q_may_have_root_1 q_may_have_root_2 q_may_have_root_5
      rw [eq4, g0]
    refine ⟨⟨v, ?_⟩, ?_, ?_⟩
    · unfold v_may_have_root_1 v_may_have_root_2
      rw [ecut]
      exact ⟨hpart, vf, i0⟩
    · rintro ⟨r, r1, r2, r3⟩
      have h1 := (rt (r - lo)).mp (by rwa [show lo + (r - lo) = r by omega])
      have h2 : a0 + (r - lo) * hz (r - lo) ys = 0 := h1
      have h3 := hzA_le (h := hi - lo) (t := r - lo) (by omega) (by omega) ys
      rw [E, decide_eq_true_iff]
      omega
    · intro hEq hT
      subst hEq
      rw [E, decide_eq_true_iff, show lo - lo = 0 by omega, hzA_zero] at hT
      have := (rt 0).mpr (by show a0 + 0 * hz 0 ys = 0; omega)
      rwa [Int.add_zero] at this
end
end Pd

set_option maxHeartbeats 2000000
/-! MxN: roots_between. -/
namespace Pd
open PySem PySem.Spec L2
structure RtsIn (P : Int → Prop) (lo hi : Int) (xs : List Int) : Prop where
  pw : xs.Pairwise (· < ·)
  mem : ∀ r, r ∈ xs ↔ (lo ≤ r ∧ r ≤ hi ∧ P r)
theorem line16 {n : Nat} (h : n ≤ 16000002) : n < LINE := by
  have : LINE = 16777216 := rfl
  omega
theorem up_len : ∀ {xs : List Int} {lo hi : Int}, xs.Pairwise (· < ·) → (∀ x ∈ xs, lo ≤ x ∧ x ≤ hi) → lo ≤ hi + 1 → (xs.length : Int) ≤ hi + 1 - lo
  | [], lo, hi, _, _, h => by simp; omega
  | x :: xs, lo, hi, p, m, h => by
    have p' := List.pairwise_cons.mp p
    have hx := m x List.mem_cons_self
    have := up_len (xs := xs) (lo := x + 1) (hi := hi) p'.2 (fun y hy => ⟨by have := p'.1 y hy; omega, (m y (List.mem_cons_of_mem _ hy)).2⟩) (by omega)
    rw [List.length_cons]; omega
theorem RtsIn.uniq {P : Int → Prop} {lo hi : Int} {xs ys : List Int} (h : RtsIn P lo hi xs) (k : RtsIn P lo hi ys) : xs = ys := by
  have nd : ∀ {zs : List Int}, zs.Pairwise (· < ·) → zs.Nodup := fun h => h.imp fun q => Int.ne_of_lt q
  have pm : xs.Perm ys := (List.perm_ext_iff_of_nodup (nd h.pw) (nd k.pw)).mpr fun r => (h.mem r).trans (k.mem r).symm
  exact List.Perm.eq_of_pairwise (le := (· < ·)) (fun a b _ _ h1 h2 => by omega) h.pw k.pw pm
theorem RtsIn.len {P : Int → Prop} {lo hi : Int} {xs : List Int} (h : RtsIn P lo hi xs) (hl : lo ≤ hi + 1) : (xs.length : Int) ≤ hi + 1 - lo := up_len h.pw (fun x hx => ⟨((h.mem x).mp hx).1, ((h.mem x).mp hx).2.1⟩) hl
/-- what is pending covers all roots from c on; the next one first -/
def Cov (P : Int → Prop) (hi : Int) : Int → List (Int × Int) → Prop
  | c, [] => ∀ x, c ≤ x → x ≤ hi → ¬ P x
  | c, (l, r) :: rest => c ≤ l ∧ l ≤ r ∧ r ≤ hi ∧ (∀ x, c ≤ x → x < l → ¬ P x) ∧ Cov P hi (r + 1) rest
theorem Cov.len {P : Int → Prop} {hi : Int} : ∀ {c : Int} {L : List (Int × Int)}, Cov P hi c L → c ≤ hi + 1 → (L.length : Int) ≤ hi + 1 - c
  | c, [], _, h => by simp; omega
  | c, (l, r) :: rest, ⟨h1, h2, h3, _, h5⟩, h => by
    have := Cov.len h5 (by omega)
    rw [List.length_cons]; omega
theorem Cov.back {P : Int → Prop} {hi c d : Int} : ∀ {L : List (Int × Int)}, Cov P hi d L → c ≤ d → (∀ x, c ≤ x → x < d → ¬ P x) → Cov P hi c L
  | [], h, hc, hn => fun x h1 h2 => by
    by_cases q : x < d
    · exact hn x h1 q
    · exact h x (by omega) h2
  | (l, r) :: rest, ⟨h1, h2, h3, h4, h5⟩, hc, hn => ⟨by omega, h2, h3, fun x q1 q2 => by
    by_cases q : x < d
    · exact hn x q1 q
    · exact h4 x (by omega) q2, h5⟩
def wid : List (Int × Int) → Nat
  | [] => 0
  | (l, r) :: rest => (2 * (r - l) + 1).toNat + wid rest
theorem lastT_rev {α : Type} [Inhabited α] {xs : List α} {x : α} {rest : List α} (h : xs.reverse = x :: rest) : lastT xs = x ∧ xs.dropLast.reverse = rest ∧ xs ≠ [] := by
  have e : xs = rest.reverse ++ [x] := by
    have := congrArg List.reverse h
    rwa [List.reverse_reverse, List.reverse_cons] at this
  subst e
  refine ⟨by unfold lastT; rw [List.getLast?_append]; rfl, by rw [List.dropLast_append_of_ne_nil (by simp)]; simp, by simp⟩
section
variable {p : Po} {n b c : Nat}
theorem roots_spec {lo hi : Int} (hp : PoS p n b) (h0 : p.coefs ≠ []) (hl : Sm lo c) (hh : Sm hi c) (hw : hi - lo ≤ 16000000) (hn : n ≤ 1000) (hb : b + (c + 1 + 1) * n * n + (c + 1) ≤ 30000000) (hb2 : b + (c + 1 + 1) * n + (c + 1 + 1) * n + (c + 1) ≤ 30000000) :
    v_roots_between p lo hi ∧ RtsIn (Rt p) lo hi (q_roots_between p lo hi) := by
  have hz0 : q_Poly_is_zero p = false := by
    rw [po_zero]; exact decide_eq_false fun e => h0 (List.length_eq_zero_iff.mp e)
  by_cases hle : lo ≤ hi
  · have hl1 := hl.lt
    have hh1 := hh.lt
    have sz : ∀ x : Int, lo ≤ x → x ≤ hi → Sm x (c + 1) := fun x h1 h2 => ⟨by rw [Nat.pow_succ]; omega, by omega⟩
    have szd : ∀ x : Int, 0 ≤ x → x ≤ hi - lo → Sm x (c + 1) := fun x h1 h2 => ⟨by rw [Nat.pow_succ]; omega, by omega⟩
    have lp := whV_inv (t := fun (s5 : (List Int) × (List (Int × Int))) => (decide ((s5.2.length : Int) > (0 : Int)))) (Vt := fun (s5 : (List Int) × (List (Int × Int))) => True) (f := fun (s5 : (List Int) × (List (Int × Int))) => q_roots_between_7 p s5.1 s5.2) (V := fun (s5 : (List Int) × (List (Int × Int))) => v_roots_between_7 p s5.1 s5.2)
      (fun m s => m = wid s.2.reverse ∧ ∃ d, lo ≤ d ∧ d ≤ hi + 1 ∧ RtsIn (Rt p) lo (d - 1) s.1 ∧ Cov (Rt p) hi d s.2.reverse) (wid [(lo, hi)]) (s := (([] : List Int), [(lo, hi)])) ⟨rfl, lo, Int.le_refl _, by omega, ⟨List.Pairwise.nil, fun r => ⟨(fun z => nomatch z), fun z => by omega⟩⟩, Int.le_refl _, hle, Int.le_refl _, fun x h1 h2 => by omega, fun x h1 h2 => by omega⟩ fun m s ⟨h1, d, h2, h3, h4, h5⟩ => by
        refine ⟨trivial, ?_⟩
        obtain ⟨fo, pe⟩ := s
        dsimp only at h1 h4 h5
        cases hr : pe.reverse with
        | nil =>
          left
          have : pe = [] := by simpa using hr
          subst this; rfl
        | cons lr rest =>
          right
          obtain ⟨l, r⟩ := lr
          obtain ⟨e1, e2, e3⟩ := lastT_rev hr
          rw [hr] at h5 h1
          obtain ⟨k1, k2, k3, k4, k5⟩ := h5
          have hpl : 0 < pe.length := List.length_pos_iff.mpr e3
          obtain ⟨mv, mr, me⟩ := mayRoot_spec (c := c + 1) hp h0 (sz l (by omega) (by omega)) (szd (r - l) (by omega) (by omega)) k2 hn hb hb2
          have hpen : (pe.length : Int) ≤ hi + 1 - lo := by
            have := Cov.len (P := Rt p) (hi := hi) (c := d) (L := (l, r) :: rest) ⟨k1, k2, k3, k4, k5⟩ h3
            have e : pe.length = ((l, r) :: rest).length := by rw [← hr, List.length_reverse]
            omega
          have dl : pe.dropLast.length = pe.length - 1 := List.length_dropLast ..
          have hfo := h4.len (by omega)
          have hf : q_roots_between_7 p fo pe = q_roots_between_8 p fo pe.dropLast l r := by unfold q_roots_between_7; rw [e1]
          have hv : v_roots_between_7 p fo pe = (pe ≠ [] ∧ v_roots_between_8 p fo pe.dropLast l r) := by unfold v_roots_between_7; rw [e1]
          refine ⟨decide_eq_true (by show (pe.length : Int) > 0; omega), ?_, ?_⟩
          · show v_roots_between_7 p fo pe
            rw [hv]
            refine ⟨e3, mv, fun _ => ⟨fun _ => line16 (by omega), fun _ => ⟨line16 (by omega), line16 (by rw [List.length_append, List.length_singleton]; omega)⟩⟩⟩
          · show ∃ k, k < m ∧ k = wid (q_roots_between_7 p fo pe).2.reverse ∧ ∃ d, lo ≤ d ∧ d ≤ hi + 1 ∧ RtsIn (Rt p) lo (d - 1) (q_roots_between_7 p fo pe).1 ∧ Cov (Rt p) hi d (q_roots_between_7 p fo pe).2.reverse
            rw [hf]
            have hwid : m = (2 * (r - l) + 1).toNat + wid rest := h1
            unfold q_roots_between_8
            by_cases hm : q_may_have_root p l r = true
            · rw [if_pos hm]
              unfold q_roots_between_9
              by_cases hlr : l = r
              · rw [if_pos (decide_eq_true hlr)]
                have hroot := me hlr hm
                refine ⟨_, ?_, rfl, l + 1, by omega, by omega, ?_, ?_⟩
                · show wid pe.dropLast.reverse < m
                  rw [e2]; omega
                · show RtsIn (Rt p) lo (l + 1 - 1) (fo ++ [l])
                  refine ⟨List.pairwise_append.mpr ⟨h4.pw, List.pairwise_singleton _ _, fun x hx y hy => ?_⟩, fun x => ?_⟩
                  · rw [List.mem_singleton.mp hy]
                    have := (h4.mem x).mp hx
                    omega
                  · rw [List.mem_append, List.mem_singleton, h4.mem x]
                    constructor
                    · rintro (⟨q1, q2, q3⟩ | q)
                      · exact ⟨q1, by omega, q3⟩
                      · subst q; exact ⟨by omega, by omega, hroot⟩
                    · rintro ⟨q1, q2, q3⟩
                      by_cases q : x = l
                      · exact .inr q
                      · refine .inl ⟨q1, ?_, q3⟩
                        by_cases q4 : x < d
                        · omega
                        · exact absurd q3 (k4 x (by omega) (by omega))
                · show Cov (Rt p) hi (l + 1) pe.dropLast.reverse
                  rw [e2, hlr]; exact k5
              · rw [if_neg (by simpa using hlr)]
                have hmid := Int.fdiv_eq_ediv_of_nonneg (l + r) (b := 2) (by decide)
                have eR : (q_roots_between_11 p fo pe.dropLast l r) = (fo, pe.dropLast ++ [((l + r).fdiv 2 + 1, r)] ++ [(l, (l + r).fdiv 2)]) := rfl
                rw [eR]
                dsimp only
                rw [List.reverse_append, List.reverse_append, e2]
                refine ⟨_, ?_, rfl, d, h2, h3, h4, ?_⟩
                · show (2 * ((l + r).fdiv 2 - l) + 1).toNat + ((2 * (r - ((l + r).fdiv 2 + 1)) + 1).toNat + wid rest) < m
                  omega
                · show d ≤ l ∧ l ≤ (l + r).fdiv 2 ∧ (l + r).fdiv 2 ≤ hi ∧ _ ∧ ((l + r).fdiv 2 + 1 ≤ (l + r).fdiv 2 + 1 ∧ (l + r).fdiv 2 + 1 ≤ r ∧ r ≤ hi ∧ _ ∧ Cov (Rt p) hi (r + 1) rest)
                  exact ⟨k1, by omega, by omega, k4, Int.le_refl _, by omega, k3, fun x q1 q2 => by omega, k5⟩
            · rw [if_neg hm]
              refine ⟨_, ?_, rfl, d, h2, h3, h4, ?_⟩
              · show wid pe.dropLast.reverse < m
                rw [e2]; omega
              · show Cov (Rt p) hi d pe.dropLast.reverse
                rw [e2]
                refine k5.back (by omega) fun x q1 q2 q3 => ?_
                by_cases q4 : x < l
                · exact k4 x q1 q4 q3
                · exact hm (mr ⟨x, by omega, by omega, q3⟩)
    obtain ⟨v, m, ⟨h1, d, h2, h3, h4, h5⟩, h6⟩ := lp
    have e5 : q_roots_between_5 p lo hi [] [] = [(lo, hi)] := by
      unfold q_roots_between_5
      rw [if_pos (decide_eq_true hle)]; rfl
    have E : q_roots_between p lo hi = (wh (fun (s5 : (List Int) × (List (Int × Int))) => (decide ((s5.2.length : Int) > (0 : Int)))) (fun (s5 : (List Int) × (List (Int × Int))) => q_roots_between_7 p s5.1 s5.2) (([] : List Int), [(lo, hi)])).1 := by
      show q_roots_between_6 p [] (q_roots_between_5 p lo hi [] []) = _
      rw [e5]; rfl
    generalize wh (fun (s5 : (List Int) × (List (Int × Int))) => (decide ((s5.2.length : Int) > (0 : Int)))) (fun (s5 : (List Int) × (List (Int × Int))) => q_roots_between_7 p s5.1 s5.2) (([] : List Int), [(lo, hi)]) = w at *
    have hw2 : w.2 = [] := by
      have := of_decide_eq_false h6
      exact List.length_eq_zero_iff.mp (by omega)
    rw [hw2] at h5
    have h5' : ∀ x, d ≤ x → x ≤ hi → ¬ Rt p x := h5
    refine ⟨⟨hz0, fun _ => line_lt (by simp), ?_⟩, ?_⟩
    · show v_roots_between_6 p [] (q_roots_between_5 p lo hi [] [])
      rw [e5]; exact v
    · rw [E]
      refine ⟨h4.pw, fun r => (h4.mem r).trans ⟨fun ⟨q1, q2, q3⟩ => ⟨q1, by omega, q3⟩, fun ⟨q1, q2, q3⟩ => ⟨q1, ?_, q3⟩⟩⟩
      by_cases q : r < d
      · omega
      · exact absurd q3 (h5' r (by omega) q2)
  · have e5 : q_roots_between_5 p lo hi [] [] = [] := by
      unfold q_roots_between_5
      rw [if_neg (by simpa using hle)]
    have hwe : wh (fun (s5 : (List Int) × (List (Int × Int))) => (decide ((s5.2.length : Int) > (0 : Int)))) (fun (s5 : (List Int) × (List (Int × Int))) => q_roots_between_7 p s5.1 s5.2) (([] : List Int), ([] : List (Int × Int))) = ([], []) := wh_end rfl
    have E : q_roots_between p lo hi = [] := by
      show q_roots_between_6 p [] (q_roots_between_5 p lo hi [] []) = _
      rw [e5]
      unfold q_roots_between_6 q_roots_between_14
      rw [hwe]; rfl
    refine ⟨⟨hz0, fun z => absurd (of_decide_eq_true z) hle, ?_⟩, ?_⟩
    · show v_roots_between_6 p [] (q_roots_between_5 p lo hi [] [])
      rw [e5]
      exact ⟨0, trivial, rfl⟩
    · rw [E]
      exact ⟨List.Pairwise.nil, fun r => ⟨(fun z => nomatch z), fun z => by omega⟩⟩
end
end Pd

set_option maxHeartbeats 2000000
/-! MxO: the roots of products; sorted roots. -/
namespace Pd
open PySem PySem.Spec L2
theorem hz_prod {xs ys zs : List Int} (h : lv zs = lv xs * lv ys) (x : Int) : hz x zs = hz x xs * hz x ys := by
  apply ic_eq
  rw [Rat.intCast_mul, ← hz_ev x xs, ← hz_ev x ys, ← hz_ev x zs]
  have e1 := Ps.ev_up (n := zs.length) (m := zs.length + (xs.length + ys.length)) (x : Rat) (lv_Bd (Nat.le_refl _)) (by omega)
  have e2 := Ps.ev_mul (n := xs.length) (m := ys.length) (l := zs.length + (xs.length + ys.length)) (f := lv xs) (g := lv ys) (x : Rat) (lv_Bd (Nat.le_refl _)) (lv_Bd (Nat.le_refl _)) (by omega)
  rw [← e1, h, e2]
theorem hz_line (x b a : Int) (ha : 0 < a) : hz x [-b, a] = 0 ↔ (b.fmod a = 0 ∧ x = b.fdiv a) := by
  show -b + x * (a + x * 0) = 0 ↔ _
  rw [Int.mul_zero, Int.add_zero]
  have h1 := Int.mul_fdiv_add_fmod b a
  have h2 := fmod_pos (i := b) ha
  constructor
  · intro h
    have hb : b = x * a := by omega
    have e : b.fdiv a = x := by rw [hb]; exact Int.mul_fdiv_cancel _ (by omega)
    refine ⟨?_, e.symm⟩
    rw [e, Int.mul_comm] at h1
    omega
  · rintro ⟨h, rfl⟩
    rw [h] at h1
    rw [Int.mul_comm]; omega
theorem hz_quad (x c : Int) (hc : 0 < c) : hz x [c, 0, 1] ≠ 0 := by
  show c + x * (0 + x * (1 + x * 0)) ≠ 0
  have e : x * (0 + x * (1 + x * 0)) = x * x := by grind
  rw [e]
  have : 0 ≤ x * x := by
    rcases Int.le_total 0 x with h | h
    · exact Int.mul_nonneg h h
    · exact Int.mul_nonneg_of_nonpos_of_nonpos h h
  omega
theorem sortedRoots_spec {roots : List Int} {lo hi : Int} (hl : roots.length < 64) : v_law_sorted_roots roots lo hi ∧ RtsIn (fun r => r ∈ roots) lo hi (q_law_sorted_roots roots lo hi) := by
  have pm := sortI_perm roots
  have pw := sortI_pw roots
  have lp := forV_inv0 (V := fun (s4 : (List Int)) (x5 : Int) => v_law_sorted_roots_2 lo hi s4 x5) (f := fun (s4 : (List Int)) (x5 : Int) => q_law_sorted_roots_2 lo hi s4 x5) (xs := sortI roots) (s := [])
    (fun i fo => fo.Pairwise (· < ·) ∧ (∀ r, r ∈ fo ↔ (lo ≤ r ∧ r ≤ hi ∧ r ∈ (sortI roots).take i)) ∧ fo.length ≤ i) ⟨List.Pairwise.nil, fun r => ⟨(fun z => nomatch z), fun ⟨_, _, z⟩ => by simp at z⟩, Nat.le_refl _⟩ fun i x fo hx ⟨h1, h2, h3⟩ => by
      have hi2 : i < (sortI roots).length := (List.getElem?_eq_some_iff.mp hx).1
      have hlen : (sortI roots).length = roots.length := pm.length_eq
      have hxe : (sortI roots)[i] = x := (List.getElem?_eq_some_iff.mp hx).2
      have tk : (sortI roots).take (i + 1) = (sortI roots).take i ++ [x] := by rw [List.take_succ, hx]; rfl
      have le : ∀ y ∈ (sortI roots).take i, y ≤ x := fun y hy => by
        have p2 := pw
        rw [← List.take_append_drop i (sortI roots)] at p2
        refine (List.pairwise_append.mp p2).2.2 y hy x ?_
        rw [List.drop_eq_getElem_cons hi2, hxe]
        exact List.mem_cons_self
      refine ⟨fun _ => line_lt (by omega), ?_⟩
      show (q_law_sorted_roots_2 lo hi fo x).Pairwise (· < ·) ∧ (∀ r, r ∈ q_law_sorted_roots_2 lo hi fo x ↔ _) ∧ (q_law_sorted_roots_2 lo hi fo x).length ≤ _
      unfold q_law_sorted_roots_2 q_law_sorted_roots_3
      rw [tk]
      by_cases hc : lo ≤ x ∧ x ≤ hi ∧ x ∉ fo
      · rw [if_pos (by simp; exact ⟨⟨hc.1, hc.2.1⟩, hc.2.2⟩)]
        refine ⟨List.pairwise_append.mpr ⟨h1, List.pairwise_singleton _ _, fun y hy z hz => ?_⟩, fun r => ?_, by simp; omega⟩
        · rw [List.mem_singleton.mp hz]
          have h4 := le y ((h2 y).mp hy).2.2
          have h5 : y ≠ x := fun e => hc.2.2 (e ▸ hy)
          omega
        · rw [List.mem_append, List.mem_singleton, h2 r, List.mem_append, List.mem_singleton]
          constructor
          · rintro (⟨a, b, c⟩ | e)
            · exact ⟨a, b, .inl c⟩
            · subst e; exact ⟨hc.1, hc.2.1, .inr rfl⟩
          · rintro ⟨a, b, c | e⟩
            · exact .inl ⟨a, b, c⟩
            · exact .inr e
      · rw [if_neg (by simp; intro a b; exact Classical.byContradiction fun z => hc ⟨a, b, z⟩)]
        refine ⟨h1, fun r => ?_, by omega⟩
        rw [h2 r, List.mem_append, List.mem_singleton]
        constructor
        · rintro ⟨a, b, c⟩
          exact ⟨a, b, .inl c⟩
        · rintro ⟨a, b, c | e⟩
          · exact ⟨a, b, c⟩
          · subst e
            have : r ∈ fo := Classical.byContradiction fun z => hc ⟨a, b, z⟩
            exact (h2 r).mp this
  obtain ⟨v, h1, h2, h3⟩ := lp
  rw [List.take_length] at h2
  exact ⟨⟨hl, v⟩, h1, fun r => (h2 r).trans (by rw [pm.mem_iff])⟩
end Pd

set_option maxHeartbeats 2000000
/-! MxP: the signs of a shifted product. -/
namespace Pd
open PySem PySem.Spec L2
theorem shF_ext (t : Int) (f : Nat → Int) {n : Nat} (h : ∀ i, n ≤ i → f i = 0) (k : Nat) : ∀ m, shF t f (n + m) k = shF t f n k
  | 0 => rfl
  | m + 1 => by
    have := shF_more t (n + m) f k fun i hi => h i (by omega)
    rw [show n + (m + 1) = n + m + 1 by omega, this, shF_ext t f h k m]
theorem co_fac {cs zs : List Int} {b a : Int} (h : lv zs = lv cs * lv [b, a]) (k : Nat) : co zs k = b * co cs k + a * sft (co cs) k := by
  apply ic_eq
  have e : lv [b, a] = ci b + Ps.X * ci a := by
    rw [lv_cons, lv_cons, lv_nil]; grind
  have e2 : lv zs = ci b * lv cs + Ps.X * (ci a * lv cs) := by rw [h, e]; grind
  have h1 : (lv zs).cf k = (ci b * lv cs + Ps.X * (ci a * lv cs)).cf k := by rw [e2]
  rw [lv_cf, Ps.add_cf, Ps.c_mul, lv_cf] at h1
  rw [h1, Rat.intCast_add, Rat.intCast_mul]
  cases k with
  | zero =>
    rw [Ps.X_zero]
    show _ = _ + ((a * 0 : Int) : Rat)
    rw [Int.mul_zero]; rfl
  | succ k =>
    rw [Ps.X_succ, Ps.c_mul, lv_cf]
    show _ = _ + ((a * co cs k : Int) : Rat)
    rw [Rat.intCast_mul]
theorem shc_fac {cs zs : List Int} {b a : Int} (h : lv zs = lv cs * lv [b, a]) (s : Int) (k : Nat) : shc s zs k = (b + a * s) * shc s cs k + a * sft (shc s cs) k := by
  have hc := co_fac h
  have hz : ∀ i, cs.length + 1 ≤ i → co zs i = 0 := fun i hi => by
    rw [hc, co_ge (by omega)]
    cases i with
    | zero => omega
    | succ i => show b * 0 + a * co cs i = 0; rw [co_ge (by omega)]; omega
  have e1 : shc s zs k = shF s (co zs) (cs.length + 1) k := by
    rw [shc_shF, ← shF_ext s (co zs) (n := cs.length + 1) hz k zs.length, ← shF_ext s (co zs) (n := zs.length) (fun i hi => co_ge hi) k (cs.length + 1)]
    congr 1; omega
  have l1 := shF_lin s a (cs.length + 1) (fun i => b * co cs i) (sft (co cs)) (co zs) k fun i => hc i
  have l2 := shF_lin s b (cs.length + 1) (fun _ => 0) (co cs) (fun i => b * co cs i) k fun i => by omega
  have l3 := shF_sft s (co cs) cs.length k
  have l4 := shF_more s cs.length (co cs) k fun i hi => co_ge hi
  have l5 := shF_zero s (cs.length + 1) (fun _ => 0) k fun _ => rfl
  have l6 : shF s (co cs) cs.length = shc s cs := funext fun j => (shc_shF s cs j).symm
  rw [e1, l1, l2, l5, l3, l4, l6]
  generalize shc s cs k = x
  generalize sft (shc s cs) k = y
  grind
theorem St.fac {cs zs : List Int} {b a s : Int} (h : lv zs = lv cs * lv [b, a]) (ha : 0 ≤ a) (hb : 0 < b + a * s) (hs : St (shc s cs)) : St (shc s zs) := by
  have e := shc_fac h s
  have e0 : shc s zs 0 = (b + a * s) * shc s cs 0 := by
    rw [e 0]; show _ + a * 0 = _; omega
  rcases hs with ⟨h0, h1⟩ | ⟨h0, h1⟩
  · refine .inl ⟨by rw [e0]; exact Int.mul_pos hb h0, fun k => ?_⟩
    rw [e k]
    have q1 : 0 ≤ (b + a * s) * shc s cs k := Int.mul_nonneg (by omega) (h1 k)
    have q2 : 0 ≤ sft (shc s cs) k := by
      cases k with
      | zero => exact Int.le_refl _
      | succ k => exact h1 k
    have q3 := Int.mul_nonneg ha q2
    omega
  · refine .inr ⟨by rw [e0]; exact Int.mul_neg_of_pos_of_neg hb h0, fun k => ?_⟩
    rw [e k]
    have q1 : (b + a * s) * shc s cs k ≤ 0 := Int.mul_nonpos_of_nonneg_of_nonpos (by omega) (h1 k)
    have q2 : sft (shc s cs) k ≤ 0 := by
      cases k with
      | zero => exact Int.le_refl _
      | succ k => exact h1 k
    have q3 : a * sft (shc s cs) k ≤ 0 := Int.mul_nonpos_of_nonneg_of_nonpos ha q2
    omega
theorem shc_two {cs ws zs : List Int} {b a : Int} (hc : ∀ k, co zs k = b * co cs k + a * sft (co ws) k) (s : Int) (k : Nat) : shc s zs k = b * shc s cs k + a * (sft (shc s ws) k + s * shc s ws k) := by
  generalize hM : cs.length + ws.length = M
  have hz : ∀ i, M + 1 ≤ i → co zs i = 0 := fun i hi => by
    rw [hc, co_ge (by omega)]
    cases i with
    | zero => omega
    | succ i => show b * 0 + a * co ws i = 0; rw [co_ge (by omega)]; omega
  have ex : ∀ xs : List Int, xs.length ≤ M → ∀ m, shF s (co xs) (M + m) k = shc s xs k := fun xs hx m => by
    rw [shc_shF, show M + m = xs.length + (M - xs.length + m) by omega]
    exact shF_ext s (co xs) (fun i hi => co_ge hi) k _
  have e1 : shc s zs k = shF s (co zs) (M + 1) k := by
    rw [shc_shF, ← shF_ext s (co zs) (n := M + 1) hz k zs.length, ← shF_ext s (co zs) (n := zs.length) (fun i hi => co_ge hi) k (M + 1)]
    congr 1; omega
  have l1 := shF_lin s a (M + 1) (fun i => b * co cs i) (sft (co ws)) (co zs) k fun i => hc i
  have l2 := shF_lin s b (M + 1) (fun _ => 0) (co cs) (fun i => b * co cs i) k fun i => by omega
  have l3 := shF_sft s (co ws) M k
  have l5 := shF_zero s (M + 1) (fun _ => 0) k fun _ => rfl
  have l6 : shF s (co ws) M = shc s ws := funext fun j => by
    rw [shc_shF, show M = ws.length + (M - ws.length) by omega]
    exact shF_ext s (co ws) (fun i hi => co_ge hi) j _
  rw [e1, l1, l2, l5, l3, l6, ex cs (by omega) 1]
  omega
theorem St.quad {cs zs : List Int} {c s : Int} (h : lv zs = lv cs * lv [c, 0, 1]) (hc : 0 < c) (hs0 : 0 ≤ s) (hs : St (shc s cs)) : St (shc s zs) := by
  have co2 : ∀ k, co zs k = c * co cs k + 1 * sft (co (0 :: cs)) k := fun k => by
    apply ic_eq
    have e : lv [c, 0, 1] = ci c + Ps.X * (Ps.X * 1) := by
      rw [lv_cons, lv_cons, lv_cons, lv_nil, show Ps.c (((1 : Int) : Int) : Rat) = (1 : Ps Rat) from rfl, show Ps.c (((0 : Int) : Int) : Rat) = (0 : Ps Rat) from rfl]; grind
    have e2 : lv zs = ci c * lv cs + Ps.X * (Ps.X * lv cs) := by rw [h, e]; grind
    have h1 : (lv zs).cf k = (ci c * lv cs + Ps.X * (Ps.X * lv cs)).cf k := by rw [e2]
    rw [lv_cf, Ps.add_cf, Ps.c_mul, lv_cf] at h1
    rw [h1, Rat.intCast_add, Rat.intCast_mul, Int.one_mul]
    cases k with
    | zero => rw [Ps.X_zero]; rfl
    | succ k =>
      rw [Ps.X_succ]
      cases k with
      | zero => rw [Ps.X_zero]; rfl
      | succ k => rw [Ps.X_succ, lv_cf]; rfl
  have e := shc_two co2 s
  have w : ∀ k, shc s (0 :: cs) k = sft (shc s cs) k + s * shc s cs k := fun k => by
    cases k with
    | zero => rfl
    | succ k => rfl
  rcases hs with ⟨h0, h1⟩ | ⟨h0, h1⟩
  · have wp : ∀ k, 0 ≤ shc s (0 :: cs) k := fun k => by
      rw [w]
      have q := Int.mul_nonneg hs0 (h1 k)
      cases k with
      | zero => show 0 ≤ 0 + s * shc s cs 0; omega
      | succ k => have := h1 k; show 0 ≤ shc s cs k + s * shc s cs (k + 1); omega
    refine .inl ⟨?_, fun k => ?_⟩
    · rw [e 0]
      have q1 := Int.mul_pos hc h0
      have q2 := Int.mul_nonneg hs0 (wp 0)
      show 0 < c * shc s cs 0 + 1 * (0 + s * shc s (0 :: cs) 0)
      omega
    · rw [e k]
      have q1 := Int.mul_nonneg (show 0 ≤ c by omega) (h1 k)
      have q2 := Int.mul_nonneg hs0 (wp k)
      cases k with
      | zero => show 0 ≤ _ + 1 * (0 + s * shc s (0 :: cs) 0); omega
      | succ k => have := wp k; show 0 ≤ _ + 1 * (shc s (0 :: cs) k + s * shc s (0 :: cs) (k + 1)); omega
  · have wp : ∀ k, shc s (0 :: cs) k ≤ 0 := fun k => by
      rw [w]
      have q := Int.mul_nonpos_of_nonneg_of_nonpos hs0 (h1 k)
      cases k with
      | zero => show 0 + s * shc s cs 0 ≤ 0; omega
      | succ k => have := h1 k; show shc s cs k + s * shc s cs (k + 1) ≤ 0; omega
    refine .inr ⟨?_, fun k => ?_⟩
    · rw [e 0]
      have q1 := Int.mul_neg_of_pos_of_neg hc h0
      have q2 := Int.mul_nonpos_of_nonneg_of_nonpos hs0 (wp 0)
      show c * shc s cs 0 + 1 * (0 + s * shc s (0 :: cs) 0) < 0
      omega
    · rw [e k]
      have q1 := Int.mul_nonpos_of_nonneg_of_nonpos (show 0 ≤ c by omega) (h1 k)
      have q2 := Int.mul_nonpos_of_nonneg_of_nonpos hs0 (wp k)
      cases k with
      | zero => show _ + 1 * (0 + s * shc s (0 :: cs) 0) ≤ 0; omega
      | succ k => have := wp k; show _ + 1 * (shc s (0 :: cs) k + s * shc s (0 :: cs) (k + 1)) ≤ 0; omega
end Pd

set_option maxHeartbeats 4000000
/-! printed by gen2.py: the plain functions of certsums_k14_roots_from and the walk -/
namespace G
open PySem PySem.Spec L2 Pd
def top (i : Nat) : Stmt := PySem.Challenge.pw_certsums_k14_roots_from.main.body.getD i (.Pass ⟨0, 0, 0, 0⟩)
abbrev s_law_numbers : Stmt := top 20
abbrev s_law_product : Stmt := top 22
abbrev s_trimmed : Stmt := top 16
abbrev s_content : Stmt := top 17
abbrev s_Poly_init : Stmt := inClass (top 18) 0
abbrev s_law_sorted_roots : Stmt := top 23
abbrev s_Poly_is_zero : Stmt := inClass (top 18) 4
abbrev s_Poly_shifted : Stmt := inClass (top 18) 15
abbrev s_is_settled : Stmt := top 7
abbrev s_settled_from : Stmt := top 8
abbrev s_may_have_root : Stmt := top 9
abbrev s_roots_between : Stmt := top 10
abbrev s_roots_from : Stmt := top 11
abbrev s_law_is_integer : Stmt := top 21
abbrev s_free_from : Stmt := top 12
abbrev s_law_refuse : Stmt := top 24
abbrev s_law : Stmt := top 25
def fls (c : Nat) : List Str := match c with
  | 20 => ["num", "den"]
  | 21 => ["coefs", "den"]
  | _ => []
def tab (K : PySem.W.Frag) : Tab := ⟨fun c => match c with
  | 0 => He.ga K "SummationError"
  | 1 => He.ga K "DivisionByZero"
  | 2 => He.ga K "ZeroPolynomial"
  | 20 => He.ga K "Fraction"
  | 21 => He.ga K "Poly"
  | _ => 0, fls⟩
/-! ### plain functions -/
noncomputable abbrev b_law_numbers_0 : FS :=
  sSet 2 (e2 gIx (eVar 0) (eC (.int 0)))
noncomputable abbrev b_law_numbers_1 : FS :=
  sSet 2 (e2 gDiv (eVar 2) (eC (.int 1000000)))
noncomputable abbrev b_law_numbers_2 : FS :=
  sSeq (sApp 4 (e2 gMod (eVar 2) (eC (.int 1000000))))
  b_law_numbers_1
noncomputable abbrev b_law_numbers_3 : FS :=
  sSet 6 (e2 gAdd (e2 gIx (eVar 0) (e2 gMod (eVar 5) (e1 gLen (eVar 0)))) (e2 gMul (eC (.int 7919)) (eVar 5)))
noncomputable abbrev b_law_numbers_4 : FS :=
  sApp 4 (e2 gMod (e2 gMod (e2 gMul (e2 gMod (e2 gMul (eVar 6) (eC (.int 48271))) (eC (.int 2147483647))) (eC (.int 69621))) (eC (.int 2147483629))) (eC (.int 1000000)))
noncomputable abbrev b_law_numbers_5 : FS :=
  sSeq (sIf (tB (e2 gGt (e1 gLen (eVar 0)) (eC (.int 0))))
  b_law_numbers_3
  sNext)
  b_law_numbers_4
noncomputable abbrev b_law_numbers_6 : FS :=
  sSeq (sSet 6 (eC (.int 13)))
  b_law_numbers_5
noncomputable abbrev b_law_numbers_7 : FS :=
  sIf (tAnd (tTru (eVar 3)) (tB (e2 gGt (eVar 2) (eC (.int 0)))))
  b_law_numbers_2
  b_law_numbers_6
noncomputable abbrev b_law_numbers_8 : FS :=
  sRetV 4
noncomputable abbrev b_law_numbers_9 : FS :=
  sSeq (sFor (iRng1 (eVar 1)) (gtName 5)
  b_law_numbers_7)
  b_law_numbers_8
noncomputable abbrev b_law_numbers_10 : FS :=
  sSeq (sSet 4 (eLst aNil))
  b_law_numbers_9
noncomputable abbrev b_law_numbers_11 : FS :=
  sSeq (sSet 3 (e2 gGe (eVar 2) (e2 gPow (eC (.int 10)) (eC (.int 18)))))
  b_law_numbers_10
noncomputable abbrev b_law_numbers_12 : FS :=
  sSeq (sIf (tB (e2 gGt (e1 gLen (eVar 0)) (eC (.int 0))))
  b_law_numbers_0
  sNext)
  b_law_numbers_11
noncomputable abbrev b_law_numbers_13 : FS :=
  sSeq (sSet 2 (eC (.int 0)))
  b_law_numbers_12
noncomputable abbrev b_law_numbers : FS := b_law_numbers_13
noncomputable def f_law_numbers : Fn := fnD 2 5 b_law_numbers
noncomputable abbrev b_law_product_0 : FS :=
  sSetIx 2 (e2 gAdd (eVar 4) (eVar 5)) (e2 gAdd (e2 gIx (eVar 2) (e2 gAdd (eVar 4) (eVar 5))) (e2 gMul (e2 gIx (eVar 0) (eVar 4)) (e2 gIx (eVar 1) (eVar 5))))
noncomputable abbrev b_law_product_1 : FS :=
  sFor (iRng1 (e1 gLen (eVar 1))) (gtName 5)
  b_law_product_0
noncomputable abbrev b_law_product_2 : FS :=
  sRetV 2
noncomputable abbrev b_law_product_3 : FS :=
  sSeq (sFor (iRng1 (e1 gLen (eVar 0))) (gtName 4)
  b_law_product_1)
  b_law_product_2
noncomputable abbrev b_law_product_4 : FS :=
  sSeq (sSet 2 (eLc [3] (iRng1 (e2 gAdd (e1 gLen (eVar 0)) (e1 gLen (eVar 1)))) (gtName 3) tTrue (eC (.int 0))))
  b_law_product_3
noncomputable abbrev b_law_product : FS := b_law_product_4
noncomputable def f_law_product : Fn := fnD 2 4 b_law_product
noncomputable abbrev b_trimmed_0 : FS :=
  sAug gSub 1 (eC (.int 1))
noncomputable abbrev b_trimmed_1 : FS :=
  sRet (eSl (eVar 0) oNone (oSome (eVar 1)))
noncomputable abbrev b_trimmed_2 : FS :=
  sSeq (sWhile (tAnd (tB (e2 gGt (eVar 1) (eC (.int 0)))) (tB (e2 gEqS (e2 gIx (eVar 0) (e2 gSub (eVar 1) (eC (.int 1)))) (eC (.int 0)))))
  b_trimmed_0)
  b_trimmed_1
noncomputable abbrev b_trimmed_3 : FS :=
  sSeq (sSet 1 (e1 gLen (eVar 0)))
  b_trimmed_2
noncomputable abbrev b_trimmed : FS := b_trimmed_3
noncomputable def f_trimmed : Fn := fnD 1 1 b_trimmed
noncomputable abbrev b_content_0 : FS :=
  sSet 1 (e2 gGcd (eVar 1) (eVar 2))
noncomputable abbrev b_content_1 : FS :=
  sRetV 1
noncomputable abbrev b_content_2 : FS :=
  sSeq (sFor (iSeq (eVar 0)) (gtName 2)
  b_content_0)
  b_content_1
noncomputable abbrev b_content_3 : FS :=
  sSeq (sSet 1 (eC (.int 0)))
  b_content_2
noncomputable abbrev b_content : FS := b_content_3
noncomputable def f_content : Fn := fnD 1 2 b_content
noncomputable abbrev b_Poly_init_0 : FS :=
  sRaise 1
noncomputable abbrev b_Poly_init_1 : FS :=
  sSet 4 (e1 gNeg (eVar 4))
noncomputable abbrev b_Poly_init_2 : FS :=
  sFld 0 21 1 (e2 gDiv (eVar 2) (eVar 4))
noncomputable abbrev b_Poly_init_3 : FS :=
  sSeq (sFld 0 21 0 (eBor 3 (e1 gTuple (eLc [5] (iSeq (eVar 3)) (gtName 5) tTrue (e2 gDiv (eVar 5) (eVar 4))))))
  b_Poly_init_2
noncomputable abbrev b_Poly_init_4 : FS :=
  sSeq (sIf (tB (e2 gLt (eVar 2) (eC (.int 0))))
  b_Poly_init_1
  sNext)
  b_Poly_init_3
noncomputable abbrev b_Poly_init_5 : FS :=
  sSeq (sSet 4 (eBor 3 (e2 gGcd (eCa 1 f_content (aCons (eVar 3) aNil)) (eVar 2))))
  b_Poly_init_4
noncomputable abbrev b_Poly_init_6 : FS :=
  sSeq (sSet 3 (eCa 1 f_trimmed (aCons (e1 gList (eVar 1)) aNil)))
  b_Poly_init_5
noncomputable abbrev b_Poly_init_7 : FS :=
  sSeq (sIf (tB (e2 gEqS (eVar 2) (eC (.int 0))))
  b_Poly_init_0
  sNext)
  b_Poly_init_6
noncomputable abbrev b_Poly_init : FS := b_Poly_init_7
noncomputable def i_Poly : FI := fnI 21 2 2 3 b_Poly_init
noncomputable def m_Poly : Fn := mkD 21 i_Poly
noncomputable abbrev b_law_sorted_roots_0 : FS :=
  sApp 3 (eVar 4)
noncomputable abbrev b_law_sorted_roots_1 : FS :=
  sIf (tAnd (tB (eChain gLe gLe (eVar 1) (eVar 4) (eVar 2))) (tB (e2 gNotInD (eVar 4) (eVar 3))))
  b_law_sorted_roots_0
  sNext
noncomputable abbrev b_law_sorted_roots_2 : FS :=
  sRetV 3
noncomputable abbrev b_law_sorted_roots_3 : FS :=
  sSeq (sFor (iSeq (e1 gSorted (eVar 0))) (gtName 4)
  b_law_sorted_roots_1)
  b_law_sorted_roots_2
noncomputable abbrev b_law_sorted_roots_4 : FS :=
  sSeq (sSet 3 (eLst aNil))
  b_law_sorted_roots_3
noncomputable abbrev b_law_sorted_roots : FS := b_law_sorted_roots_4
noncomputable def f_law_sorted_roots : Fn := fnD 3 2 b_law_sorted_roots
noncomputable abbrev b_Poly_is_zero_0 : FS :=
  sRet (e2 gEqS (e1 gLen (e1 (gFld (tbl [(21, 0)])) (eVar 0))) (eC (.int 0)))
noncomputable abbrev b_Poly_is_zero : FS := b_Poly_is_zero_0
noncomputable def f_Poly_is_zero : Fn := fnD 1 0 b_Poly_is_zero
noncomputable abbrev b_Poly_shifted_0 : FS :=
  sSetIx 2 (eVar 4) (e2 gAdd (e2 gIx (eVar 2) (eVar 4)) (e2 gMul (eVar 1) (e2 gIx (eVar 2) (e2 gAdd (eVar 4) (eC (.int 1))))))
noncomputable abbrev b_Poly_shifted_1 : FS :=
  sFor (iRngD (e2 gSub (e1 gLen (eVar 2)) (eC (.int 2))) (e2 gSub (eVar 3) (eC (.int 1)))) (gtName 4)
  b_Poly_shifted_0
noncomputable abbrev b_Poly_shifted_2 : FS :=
  sRet (eBor 2 (eCa 2 m_Poly (aCons (eVar 2) (aCons (e1 (gFld (tbl [(21, 1)])) (eVar 0)) aNil))))
noncomputable abbrev b_Poly_shifted_3 : FS :=
  sSeq (sFor (iRng1 (e2 gSub (e1 gLen (eVar 2)) (eC (.int 1)))) (gtName 3)
  b_Poly_shifted_1)
  b_Poly_shifted_2
noncomputable abbrev b_Poly_shifted_4 : FS :=
  sSeq (sSet 2 (e1 gList (e1 (gFld (tbl [(21, 0)])) (eVar 0))))
  b_Poly_shifted_3
noncomputable abbrev b_Poly_shifted : FS := b_Poly_shifted_4
noncomputable def f_Poly_shifted : Fn := fnD 2 3 b_Poly_shifted
noncomputable abbrev b_is_settled_0 : FS :=
  sRet (eC (.bl false))
noncomputable abbrev b_is_settled_1 : FS :=
  sRet (e2 gGe (e1 gMinL (e1 (gFld (tbl [(21, 0)])) (eVar 0))) (eC (.int 0)))
noncomputable abbrev b_is_settled_2 : FS :=
  sRet (e2 gLe (e1 gMaxL (e1 (gFld (tbl [(21, 0)])) (eVar 0))) (eC (.int 0)))
noncomputable abbrev b_is_settled_3 : FS :=
  sSeq (sIf (tB (e2 gGt (e2 gIx (e1 (gFld (tbl [(21, 0)])) (eVar 0)) (eC (.int 0))) (eC (.int 0))))
  b_is_settled_1
  sNext)
  b_is_settled_2
noncomputable abbrev b_is_settled_4 : FS :=
  sSeq (sIf (tOr (tTru (e1 (gAtt (tbl []) (tbl [(21, f_Poly_is_zero)])) (eVar 0))) (tB (e2 gEqS (e2 gIx (e1 (gFld (tbl [(21, 0)])) (eVar 0)) (eC (.int 0))) (eC (.int 0)))))
  b_is_settled_0
  sNext)
  b_is_settled_3
noncomputable abbrev b_is_settled : FS := b_is_settled_4
noncomputable def f_is_settled : Fn := fnD 1 0 b_is_settled
noncomputable abbrev b_settled_from_0 : FS :=
  sRaise 2
noncomputable abbrev b_settled_from_1 : FS :=
  sRetV 1
noncomputable abbrev b_settled_from_2 : FS :=
  sSet 2 (e2 gMul (eVar 2) (eC (.int 2)))
noncomputable abbrev b_settled_from_3 : FS :=
  sSet 4 (eVar 5)
noncomputable abbrev b_settled_from_4 : FS :=
  sSet 3 (eVar 5)
noncomputable abbrev b_settled_from_5 : FS :=
  sIf (tTru (eCa 1 f_is_settled (aCons (eMe (tbl [(21, mfn 2 (fun ds => ds) f_Poly_shifted)]) (eVar 0) (aCons (eVar 5) aNil)) aNil)))
  b_settled_from_3
  b_settled_from_4
noncomputable abbrev b_settled_from_6 : FS :=
  sSeq (sSet 5 (e2 gDiv (e2 gAdd (eVar 3) (eVar 4)) (eC (.int 2))))
  b_settled_from_5
noncomputable abbrev b_settled_from_7 : FS :=
  sRetV 4
noncomputable abbrev b_settled_from_8 : FS :=
  sSeq (sWhile (tB (e2 gGt (e2 gSub (eVar 4) (eVar 3)) (eC (.int 1))))
  b_settled_from_6)
  b_settled_from_7
noncomputable abbrev b_settled_from_9 : FS :=
  sSeq (sSet 4 (e2 gAdd (eVar 1) (eVar 2)))
  b_settled_from_8
noncomputable abbrev b_settled_from_10 : FS :=
  sSeq (sSet 3 (e2 gAdd (eVar 1) (e2 gDiv (eVar 2) (eC (.int 2)))))
  b_settled_from_9
noncomputable abbrev b_settled_from_11 : FS :=
  sSeq (sWhile (tNot (tTru (eCa 1 f_is_settled (aCons (eMe (tbl [(21, mfn 2 (fun ds => ds) f_Poly_shifted)]) (eVar 0) (aCons (e2 gAdd (eVar 1) (eVar 2)) aNil)) aNil))))
  b_settled_from_2)
  b_settled_from_10
noncomputable abbrev b_settled_from_12 : FS :=
  sSeq (sSet 2 (eC (.int 1)))
  b_settled_from_11
noncomputable abbrev b_settled_from_13 : FS :=
  sSeq (sIf (tTru (eCa 1 f_is_settled (aCons (eMe (tbl [(21, mfn 2 (fun ds => ds) f_Poly_shifted)]) (eVar 0) (aCons (eVar 1) aNil)) aNil)))
  b_settled_from_1
  sNext)
  b_settled_from_12
noncomputable abbrev b_settled_from_14 : FS :=
  sSeq (sIf (tTru (e1 (gAtt (tbl []) (tbl [(21, f_Poly_is_zero)])) (eVar 0)))
  b_settled_from_0
  sNext)
  b_settled_from_13
noncomputable abbrev b_settled_from : FS := b_settled_from_14
noncomputable def f_settled_from : Fn := fnD 2 4 b_settled_from
noncomputable abbrev b_may_have_root_0 : FS :=
  sSet 4 (e2 gMul (e2 gAdd (eVar 4) (e1 gAbs (eVar 5))) (e2 gSub (eVar 2) (eVar 1)))
noncomputable abbrev b_may_have_root_1 : FS :=
  sRet (e2 gLe (e1 gAbs (e2 gIx (eVar 3) (eC (.int 0)))) (eVar 4))
noncomputable abbrev b_may_have_root_2 : FS :=
  sSeq (sFor (iRevS (eSl (eVar 3) (oSome (eC (.int 1))) oNone)) (gtName 5)
  b_may_have_root_0)
  b_may_have_root_1
noncomputable abbrev b_may_have_root_3 : FS :=
  sSeq (sSet 4 (eC (.int 0)))
  b_may_have_root_2
noncomputable abbrev b_may_have_root_4 : FS :=
  sSeq (sSet 3 (e1 (gFld (tbl [(21, 0)])) (eMe (tbl [(21, mfn 2 (fun ds => ds) f_Poly_shifted)]) (eVar 0) (aCons (eVar 1) aNil))))
  b_may_have_root_3
noncomputable abbrev b_may_have_root : FS := b_may_have_root_4
noncomputable def f_may_have_root : Fn := fnD 3 3 b_may_have_root
noncomputable abbrev b_roots_between_0 : FS :=
  sRaise 2
noncomputable abbrev b_roots_between_1 : FS :=
  sApp 4 (eTup (aCons (eVar 1) (aCons (eVar 2) aNil)))
noncomputable abbrev b_roots_between_2 : FS :=
  sApp 3 (eVar 5)
noncomputable abbrev b_roots_between_3 : FS :=
  sApp 4 (eTup (aCons (eVar 5) (aCons (eVar 7) aNil)))
noncomputable abbrev b_roots_between_4 : FS :=
  sSeq (sApp 4 (eTup (aCons (e2 gAdd (eVar 7) (eC (.int 1))) (aCons (eVar 6) aNil))))
  b_roots_between_3
noncomputable abbrev b_roots_between_5 : FS :=
  sSeq (sSet 7 (e2 gDiv (e2 gAdd (eVar 5) (eVar 6)) (eC (.int 2))))
  b_roots_between_4
noncomputable abbrev b_roots_between_6 : FS :=
  sIf (tB (e2 gEqS (eVar 5) (eVar 6)))
  b_roots_between_2
  b_roots_between_5
noncomputable abbrev b_roots_between_7 : FS :=
  sIf (tTru (eCa 3 f_may_have_root (aCons (eVar 0) (aCons (eVar 5) (aCons (eVar 6) aNil)))))
  b_roots_between_6
  sNext
noncomputable abbrev b_roots_between_8 : FS :=
  sSeq (sPopTo (gtTup [5, 6]) 4)
  b_roots_between_7
noncomputable abbrev b_roots_between_9 : FS :=
  sRetV 3
noncomputable abbrev b_roots_between_10 : FS :=
  sSeq (sWhile (tB (e2 gGt (e1 gLen (eVar 4)) (eC (.int 0))))
  b_roots_between_8)
  b_roots_between_9
noncomputable abbrev b_roots_between_11 : FS :=
  sSeq (sIf (tB (e2 gLe (eVar 1) (eVar 2)))
  b_roots_between_1
  sNext)
  b_roots_between_10
noncomputable abbrev b_roots_between_12 : FS :=
  sSeq (sSet 4 (eLst aNil))
  b_roots_between_11
noncomputable abbrev b_roots_between_13 : FS :=
  sSeq (sSet 3 (eLst aNil))
  b_roots_between_12
noncomputable abbrev b_roots_between_14 : FS :=
  sSeq (sIf (tTru (e1 (gAtt (tbl []) (tbl [(21, f_Poly_is_zero)])) (eVar 0)))
  b_roots_between_0
  sNext)
  b_roots_between_13
noncomputable abbrev b_roots_between : FS := b_roots_between_14
noncomputable def f_roots_between : Fn := fnD 3 5 b_roots_between
noncomputable abbrev b_roots_from_0 : FS :=
  sRet (eCall 1 2 (fun ds es => f_roots_between (ds ++ es)) (aCons (eVar 0) aNil) (aCons (eVar 1) (aCons (eVar 2) aNil)))
noncomputable abbrev b_roots_from_1 : FS :=
  sSeq (sSet 2 (e2 gSub (eCall 1 1 (fun ds es => f_settled_from (ds ++ es)) (aCons (eVar 0) aNil) (aCons (eVar 1) aNil)) (eC (.int 1))))
  b_roots_from_0
noncomputable abbrev b_roots_from : FS := b_roots_from_1
noncomputable def f_roots_from : Fn := fnD 2 1 b_roots_from
noncomputable abbrev b_law_is_integer_0 : FS :=
  sRet (eAnd (e1 (gIsi (ansB "int" [])) (eVar 0)) (eNot (e1 (gIsi (ansB "bool" [])) (eVar 0))))
noncomputable abbrev b_law_is_integer : FS := b_law_is_integer_0
noncomputable def f_law_is_integer : Fn := fnD 1 0 b_law_is_integer
noncomputable abbrev b_free_from_0 : FS :=
  sRetV 1
noncomputable abbrev b_free_from_1 : FS :=
  sRet (e2 gAdd (e2 gIx (eVar 2) (e1 gNeg (eC (.int 1)))) (eC (.int 1)))
noncomputable abbrev b_free_from_2 : FS :=
  sSeq (sIf (tB (e2 gEqS (e1 gLen (eVar 2)) (eC (.int 0))))
  b_free_from_0
  sNext)
  b_free_from_1
noncomputable abbrev b_free_from_3 : FS :=
  sSeq (sSet 2 (eCall 1 1 (fun ds es => f_roots_from (ds ++ es)) (aCons (eVar 0) aNil) (aCons (eVar 1) aNil)))
  b_free_from_2
noncomputable abbrev b_free_from : FS := b_free_from_3
noncomputable def f_free_from : Fn := fnD 2 1 b_free_from
noncomputable abbrev b_law_refuse_0 : FS :=
  sExpr (eCall 1 1 (fun ds es => f_roots_from (ds ++ es)) (aCons (eCa 1 (fun ds => m_Poly ((fun ds => ds ++ [(.int 1)]) ds)) (aCons (eLst aNil) aNil)) aNil) (aCons (eVar 0) aNil))
noncomputable abbrev b_law_refuse_1 : FS :=
  sSet 1 (e2 gAdd (eVar 1) (eC (.int 1)))
noncomputable abbrev b_law_refuse_2 : FS :=
  sExpr (eCall 1 1 (fun ds es => f_free_from (ds ++ es)) (aCons (eCa 1 (fun ds => m_Poly ((fun ds => ds ++ [(.int 1)]) ds)) (aCons (eLst aNil) aNil)) aNil) (aCons (eVar 0) aNil))
noncomputable abbrev b_law_refuse_3 : FS :=
  sSet 1 (e2 gAdd (eVar 1) (eC (.int 1)))
noncomputable abbrev b_law_refuse_4 : FS :=
  sRet (e2 gEqS (eVar 1) (eC (.int 2)))
noncomputable abbrev b_law_refuse_5 : FS :=
  sSeq (sTryIf 2 (tbl [(1, false), (2, true)]) (tbl [(2, true)])
  b_law_refuse_2
  b_law_refuse_3)
  b_law_refuse_4
noncomputable abbrev b_law_refuse_6 : FS :=
  sSeq (sTryIf 2 (tbl [(1, false), (2, true)]) (tbl [(2, true)])
  b_law_refuse_0
  b_law_refuse_1)
  b_law_refuse_5
noncomputable abbrev b_law_refuse_7 : FS :=
  sSeq (sSet 1 (eC (.int 0)))
  b_law_refuse_6
noncomputable abbrev b_law_refuse : FS := b_law_refuse_7
noncomputable def f_law_refuse : Fn := fnD 1 2 b_law_refuse
noncomputable abbrev b_law_0 : FS :=
  sSetIx 2 (eC (.int 0)) (e2 gAdd (e2 gIx (eVar 2) (eC (.int 0))) (eC (.int 1)))
noncomputable abbrev b_law_1 : FS :=
  sSet 6 (e2 gAdd (eVar 6) (e2 gMul (eVar 5) (e2 gPow (eC (.int 10)) (eC (.int 7)))))
noncomputable abbrev b_law_2 : FS :=
  sApp 3 (e2 gDiv (eVar 6) (eVar 5))
noncomputable abbrev b_law_3 : FS :=
  sIf (tB (e2 gEqS (e2 gMod (eVar 6) (eVar 5)) (eC (.int 0))))
  b_law_2
  sNext
noncomputable abbrev b_law_4 : FS :=
  sSeq (sFrz 2 (sSet 2 (eCa 2 f_law_product (aCons (eVar 2) (aCons (eLst (aCons (e1 gNeg (eVar 6)) (aCons (eVar 5) aNil))) aNil)))))
  b_law_3
noncomputable abbrev b_law_5 : FS :=
  sSeq (sIf (tB (e2 gEqS (e2 gMod (e2 gDiv (e2 gIx (eVar 1) (e2 gAdd (eC (.int 5)) (eVar 4))) (eC (.int 243))) (eC (.int 8))) (eC (.int 1))))
  b_law_1
  sNext)
  b_law_4
noncomputable abbrev b_law_6 : FS :=
  sSeq (sSet 6 (e2 gSub (e2 gMod (e2 gDiv (e2 gIx (eVar 1) (e2 gAdd (eC (.int 5)) (eVar 4))) (eC (.int 3))) (eC (.int 81))) (eC (.int 40))))
  b_law_5
noncomputable abbrev b_law_7 : FS :=
  sSeq (sSet 5 (e2 gAdd (e2 gMod (e2 gIx (eVar 1) (e2 gAdd (eC (.int 5)) (eVar 4))) (eC (.int 3))) (eC (.int 1))))
  b_law_6
noncomputable abbrev b_law_8 : FS :=
  sFrz 2 (sSet 2 (eCa 2 f_law_product (aCons (eVar 2) (aCons (eLst (aCons (e2 gAdd (e2 gMod (e2 gIx (eVar 1) (eC (.int 3))) (eC (.int 9))) (eC (.int 1))) (aCons (eC (.int 0)) (aCons (eC (.int 1)) aNil)))) aNil))))
noncomputable abbrev b_law_9 : FS :=
  sSet 7 (e2 gAdd (e2 gIx (eVar 3) (eC (.int 0))) (e2 gMod (e2 gIx (eVar 1) (eC (.int 4))) (eC (.int 2))))
noncomputable abbrev b_law_10 : FS :=
  sRet (eC (.bl false))
noncomputable abbrev b_law_11 : FS :=
  sRet (eC (.bl false))
noncomputable abbrev b_law_12 : FS :=
  sSet 11 (e2 gAdd (e2 gIx (eVar 9) (eVar 4)) (eC (.int 1)))
noncomputable abbrev b_law_13 : FS :=
  sSeq (sIf (tOr (tNot (tTru (eCa 1 f_law_is_integer (aCons (e2 gIx (eVar 10) (eVar 4)) aNil)))) (tB (e2 gNeS (e2 gIx (eVar 10) (eVar 4)) (e2 gIx (eVar 9) (eVar 4)))))
  b_law_11
  sNext)
  b_law_12
noncomputable abbrev b_law_14 : FS :=
  sRet (eC (.bl false))
noncomputable abbrev b_law_15 : FS :=
  sRet (eAnd (eCa 1 f_law_is_integer (aCons (eVar 12) aNil)) (eAnd (e2 gEqS (eVar 12) (eVar 11)) (eCa 1 f_law_refuse (aCons (eVar 7) aNil))))
noncomputable abbrev b_law_16 : FS :=
  sSeq (sSet 12 (eCall 1 1 (fun ds es => f_free_from (ds ++ es)) (aCons (eVar 8) aNil) (aCons (eVar 7) aNil)))
  b_law_15
noncomputable abbrev b_law_17 : FS :=
  sSeq (sIf (tB (e2 gNeD (eCall 1 1 (fun ds es => f_roots_from (ds ++ es)) (aCons (eVar 8) aNil) (aCons (eVar 7) aNil)) (eVar 9)))
  b_law_14
  sNext)
  b_law_16
noncomputable abbrev b_law_18 : FS :=
  sSeq (sApp 10 (eVar 7))
  b_law_17
noncomputable abbrev b_law_19 : FS :=
  sSeq (sFor (iRng1 (e1 gLen (eVar 9))) (gtName 4)
  b_law_13)
  b_law_18
noncomputable abbrev b_law_20 : FS :=
  sSeq (sSet 11 (eVar 7))
  b_law_19
noncomputable abbrev b_law_21 : FS :=
  sSeq (sIf (tBor 10 (tOr (tNot (tTru (e1 (gIsi (ansB "list" [])) (eVar 10)))) (tB (e2 gNeS (e1 gLen (eVar 10)) (e1 gLen (eVar 9))))))
  b_law_10
  sNext)
  b_law_20
noncomputable abbrev b_law_22 : FS :=
  sSeq (sSet 10 (eCall 1 1 (fun ds es => f_roots_from (ds ++ es)) (aCons (eVar 8) aNil) (aCons (eVar 7) aNil)))
  b_law_21
noncomputable abbrev b_law_23 : FS :=
  sSeq (sFrz 3 (sSet 9 (eCa 3 f_law_sorted_roots (aCons (eVar 3) (aCons (eVar 7) (aCons (e2 gPow (eC (.int 10)) (eC (.int 9))) aNil))))))
  b_law_22
noncomputable abbrev b_law_24 : FS :=
  sSeq (sSet 8 (eBor 2 (eCa 2 m_Poly (aCons (eVar 2) (aCons (e2 gAdd (e2 gMod (e2 gDiv (e2 gIx (eVar 1) (eC (.int 3))) (eC (.int 9))) (eC (.int 9))) (eC (.int 1))) aNil)))))
  b_law_23
noncomputable abbrev b_law_25 : FS :=
  sSeq (sIf (tAnd (tB (e2 gEqS (e2 gMod (e2 gDiv (e2 gIx (eVar 1) (eC (.int 2))) (eC (.int 3))) (eC (.int 4))) (eC (.int 1)))) (tB (e2 gGt (e1 gLen (eVar 3)) (eC (.int 0)))))
  b_law_9
  sNext)
  b_law_24
noncomputable abbrev b_law_26 : FS :=
  sSeq (sSet 7 (e2 gSub (e2 gMod (e2 gIx (eVar 1) (eC (.int 4))) (eC (.int 101))) (eC (.int 50))))
  b_law_25
noncomputable abbrev b_law_27 : FS :=
  sSeq (sIf (tB (e2 gEqS (e2 gMod (e2 gIx (eVar 1) (eC (.int 2))) (eC (.int 3))) (eC (.int 1))))
  b_law_8
  sNext)
  b_law_26
noncomputable abbrev b_law_28 : FS :=
  sSeq (sFor (iRng1 (e2 gMod (e2 gIx (eVar 1) (eC (.int 1))) (eC (.int 5)))) (gtName 4)
  b_law_7)
  b_law_27
noncomputable abbrev b_law_29 : FS :=
  sSeq (sSet 3 (eLst aNil))
  b_law_28
noncomputable abbrev b_law_30 : FS :=
  sSeq (sIf (tB (e2 gGe (e2 gIx (eVar 2) (eC (.int 0))) (eC (.int 0))))
  b_law_0
  sNext)
  b_law_29
noncomputable abbrev b_law_31 : FS :=
  sSeq (sSet 2 (eLst (aCons (e2 gSub (e2 gMod (e2 gIx (eVar 1) (eC (.int 0))) (eC (.int 12))) (eC (.int 6))) aNil)))
  b_law_30
noncomputable abbrev b_law_32 : FS :=
  sSeq (sSet 1 (eCa 2 f_law_numbers (aCons (eVar 0) (aCons (eC (.int 10)) aNil))))
  b_law_31
noncomputable abbrev b_law : FS := b_law_32
noncomputable def f_law : Fn := fnD 1 12 b_law
/-! ### scopes -/
theorem sc_law_numbers : FnScope ["_law_script", "_law_count", "_law_rest", "_law_by_digits", "_law_numbers_here", "_law_k", "_law_cell"] ["_law_script", "_law_count"] (defScope s_law_numbers) := ⟨rfl, rfl, rfl, by decide +kernel, rfl, by decide +kernel, by decide +kernel⟩
theorem sc_law_product : FnScope ["_law_a", "_law_b", "_law_result", "_law_k", "_law_i", "_law_j"] ["_law_a", "_law_b"] (defScope s_law_product) := ⟨rfl, rfl, rfl, by decide +kernel, rfl, by decide +kernel, by decide +kernel⟩
theorem sc_trimmed : FnScope ["numbers", "size"] ["numbers"] (defScope s_trimmed) := ⟨rfl, rfl, rfl, by decide +kernel, rfl, by decide +kernel, by decide +kernel⟩
theorem sc_content : FnScope ["numbers", "divisor", "number"] ["numbers"] (defScope s_content) := ⟨rfl, rfl, rfl, by decide +kernel, rfl, by decide +kernel, by decide +kernel⟩
theorem sc_Poly_init : FnScope ["self", "coefs", "den", "numbers", "divisor", "number"] ["self", "coefs", "den"] (defScope s_Poly_init) := ⟨rfl, rfl, rfl, by decide +kernel, rfl, by decide +kernel, by decide +kernel⟩
theorem sc_law_sorted_roots : FnScope ["_law_roots", "_law_low", "_law_high", "_law_found", "_law_root"] ["_law_roots", "_law_low", "_law_high"] (defScope s_law_sorted_roots) := ⟨rfl, rfl, rfl, by decide +kernel, rfl, by decide +kernel, by decide +kernel⟩
theorem sc_Poly_is_zero : FnScope ["self"] ["self"] (defScope s_Poly_is_zero) := ⟨rfl, rfl, rfl, by decide +kernel, rfl, by decide +kernel, by decide +kernel⟩
theorem sc_Poly_shifted : FnScope ["self", "step", "numbers", "i", "j"] ["self", "step"] (defScope s_Poly_shifted) := ⟨rfl, rfl, rfl, by decide +kernel, rfl, by decide +kernel, by decide +kernel⟩
theorem sc_is_settled : FnScope ["p"] ["p"] (defScope s_is_settled) := ⟨rfl, rfl, rfl, by decide +kernel, rfl, by decide +kernel, by decide +kernel⟩
theorem sc_settled_from : FnScope ["p", "start", "step", "low", "high", "middle"] ["p", "start"] (defScope s_settled_from) := ⟨rfl, rfl, rfl, by decide +kernel, rfl, by decide +kernel, by decide +kernel⟩
theorem sc_may_have_root : FnScope ["p", "low", "high", "numbers", "change", "number"] ["p", "low", "high"] (defScope s_may_have_root) := ⟨rfl, rfl, rfl, by decide +kernel, rfl, by decide +kernel, by decide +kernel⟩
theorem sc_roots_between : FnScope ["p", "low", "high", "found", "pending", "left", "right", "middle"] ["p", "low", "high"] (defScope s_roots_between) := ⟨rfl, rfl, rfl, by decide +kernel, rfl, by decide +kernel, by decide +kernel⟩
theorem sc_roots_from : FnScope ["p", "start", "high"] ["p", "start"] (defScope s_roots_from) := ⟨rfl, rfl, rfl, by decide +kernel, rfl, by decide +kernel, by decide +kernel⟩
theorem sc_law_is_integer : FnScope ["_law_x"] ["_law_x"] (defScope s_law_is_integer) := ⟨rfl, rfl, rfl, by decide +kernel, rfl, by decide +kernel, by decide +kernel⟩
theorem sc_free_from : FnScope ["p", "start", "roots"] ["p", "start"] (defScope s_free_from) := ⟨rfl, rfl, rfl, by decide +kernel, rfl, by decide +kernel, by decide +kernel⟩
theorem sc_law_refuse : FnScope ["_law_start", "_law_count", "e"] ["_law_start"] (defScope s_law_refuse) := ⟨rfl, rfl, rfl, by decide +kernel, rfl, by decide +kernel, by decide +kernel⟩
theorem sc_law : FnScope ["_law_script", "_law_numbers_here", "_law_coefs", "_law_roots", "_law_k", "_law_a", "_law_b", "_law_start", "_law_p", "_law_due", "_law_found", "_law_free", "_law_actual"] ["_law_script"] (defScope s_law) := ⟨rfl, rfl, rfl, by decide +kernel, rfl, by decide +kernel, by decide +kernel⟩
/-! ### what the head tells -/
def h_law_numbers : DefP := ⟨atG "_law_numbers", "_law_numbers", "_law_numbers", defArgs s_law_numbers, defBody s_law_numbers, defScope s_law_numbers, []⟩
def h_law_product : DefP := ⟨atG "_law_product", "_law_product", "_law_product", defArgs s_law_product, defBody s_law_product, defScope s_law_product, []⟩
def h_trimmed : DefP := ⟨atG "trimmed", "trimmed", "trimmed", defArgs s_trimmed, defBody s_trimmed, defScope s_trimmed, []⟩
def h_content : DefP := ⟨atG "content", "content", "content", defArgs s_content, defBody s_content, defScope s_content, []⟩
def h_Poly_init : DefP := ⟨atM "Poly" "__init__", "__init__", "Poly.__init__", defArgs s_Poly_init, defBody s_Poly_init, defScope s_Poly_init, [(.int 1)]⟩
def h_law_sorted_roots : DefP := ⟨atG "_law_sorted_roots", "_law_sorted_roots", "_law_sorted_roots", defArgs s_law_sorted_roots, defBody s_law_sorted_roots, defScope s_law_sorted_roots, []⟩
def h_Poly_is_zero : DefP := ⟨behind "property" "Poly" "is_zero", "is_zero", "Poly.is_zero", defArgs s_Poly_is_zero, defBody s_Poly_is_zero, defScope s_Poly_is_zero, []⟩
def h_Poly_shifted : DefP := ⟨atM "Poly" "shifted", "shifted", "Poly.shifted", defArgs s_Poly_shifted, defBody s_Poly_shifted, defScope s_Poly_shifted, []⟩
def h_is_settled : DefP := ⟨atG "is_settled", "is_settled", "is_settled", defArgs s_is_settled, defBody s_is_settled, defScope s_is_settled, []⟩
def h_settled_from : DefP := ⟨atG "settled_from", "settled_from", "settled_from", defArgs s_settled_from, defBody s_settled_from, defScope s_settled_from, []⟩
def h_may_have_root : DefP := ⟨atG "may_have_root", "may_have_root", "may_have_root", defArgs s_may_have_root, defBody s_may_have_root, defScope s_may_have_root, []⟩
def h_roots_between : DefP := ⟨atG "roots_between", "roots_between", "roots_between", defArgs s_roots_between, defBody s_roots_between, defScope s_roots_between, []⟩
def h_roots_from : DefP := ⟨atG "roots_from", "roots_from", "roots_from", defArgs s_roots_from, defBody s_roots_from, defScope s_roots_from, []⟩
def h_law_is_integer : DefP := ⟨atG "_law_is_integer", "_law_is_integer", "_law_is_integer", defArgs s_law_is_integer, defBody s_law_is_integer, defScope s_law_is_integer, []⟩
def h_free_from : DefP := ⟨atG "free_from", "free_from", "free_from", defArgs s_free_from, defBody s_free_from, defScope s_free_from, []⟩
def h_law_refuse : DefP := ⟨atG "_law_refuse", "_law_refuse", "_law_refuse", defArgs s_law_refuse, defBody s_law_refuse, defScope s_law_refuse, []⟩
def h_law : DefP := ⟨atG "law", "law", "law", defArgs s_law, defBody s_law, defScope s_law, []⟩
def fns : List DefP := [h_law_numbers, h_law_product, h_trimmed, h_content, h_Poly_init, h_law_sorted_roots, h_Poly_is_zero, h_Poly_shifted, h_is_settled, h_settled_from, h_may_have_root, h_roots_between, h_roots_from, h_law_is_integer, h_free_from, h_law_refuse, h_law]
def fas : List He.Fa := [.glo "_law_numbers", .free "range", .glo "_law_product", .free "len", .glo "Poly", .mkr "Poly", .glo "_law_sorted_roots", .glo "roots_from", .free "isinstance", .free "list", .glo "_law_is_integer", .glo "free_from", .glo "_law_refuse", .exc "DivisionByZero", .glo "DivisionByZero", .glo "trimmed", .glo "content", .free "tuple", .free "sorted", .glo "settled_from", .glo "roots_between", .exc "ZeroPolynomial", .glo "ZeroPolynomial", .meth "Poly" "shifted", .glo "is_settled", .free "min", .free "max", .glo "may_have_root", .free "reversed", .free "abs", .free "bool", .free "int", .exm "DivisionByZero" "ZeroPolynomial" false, .exm "ZeroPolynomial" "ZeroPolynomial" true, .glo "SummationError", .glo "law", .cls "Poly", .noat "Poly" "coefs", .noat "Poly" "den"]
def bls : List (PySem.W.Frag → Bool) := [seerB, bltB "gcd" "math.gcd", propB "Poly" "is_zero", isi0, excB "ZeroPolynomial", kitCC "ZeroPolynomial" "SummationError" true]
abbrev Fx (P : Program) (K : PySem.W.Frag) (mg : Str → Option Value) : Prop := FxP fas fns bls P K mg
section
variable {P : Program} {w : World} {K : PySem.W.Frag} {mg : Str → Option Value} {base : Heap}
theorem cd_Poly (fx : Fx P K mg) : ClsD K (tab K) 21 := ⟨fx.cls 36, all_cons (fx.noat 37) (all_cons (fx.noat 38) all_nil), (by show (fls 21).Nodup; decide), (by show (fls 21).length < 1000; decide)⟩
theorem ok_law_numbers (fx : Fx P K mg) : ∃ fd, FunD K "_law_numbers" "_law_numbers" (defArgs s_law_numbers) (defBody s_law_numbers) (defScope s_law_numbers) (h_law_numbers.dv K) [] ((atG "_law_numbers") K) fd ∧ FnOk P w K mg base (L2.CX P w) 33 ((atG "_law_numbers") K) fd ["_law_script", "_law_count"] (spD K (tab K) f_law_numbers) := by
  obtain ⟨fd, F⟩ := fx.fun_ 0 (d := h_law_numbers)
  exact ⟨fd, F, fnOk_of F sc_law_numbers rfl rfl fun cdv A outer s H E hr tk => pdss_cons (pds_set 2 sc_law_numbers.nd pd_int)
    (pdss_cons (pds_if (pdt_gt (pd_len (fx.free 3) (pd_var 0)) pd_int)
    (pdss_one (pds_set 2 sc_law_numbers.nd (pd_item (pd_var 0) pd_int)))
    pdss_nil)
    (pdss_cons (pds_set 3 sc_law_numbers.nd (pd_ge (pd_var 2) (pd_pow pd_int pd_int)))
    (pdss_cons (pds_set 4 sc_law_numbers.nd (pd_lst pda_nil))
    (pdss_cons (pds_for (vs := [5]) PassesOwn.leaving rfl (pdi_rng1 (fx.free 1) (pd_var 1)) (pg_name sc_law_numbers.nd rfl (by first | exact Or.inl rfl | exact Or.inr rfl) (by first | exact .inl rfl | exact .inr rfl)) (tg_name (by decide))
    (pdss_one (pds_if (pdt_of (pdw_and (pdt_tru (pd_var 3)) (pdw_and1 (pdt_gt (pd_var 2) pd_int))))
    (pdss_cons (pds_app (i := 4) (pd_mod (pd_var 2) pd_int))
    (pdss_one (pds_set 2 sc_law_numbers.nd (pd_div (dv_fn fx.1 (fx.bool 0) sc_law_numbers hr (by decide)) (pd_var 2) pd_int))))
    (pdss_cons (pds_set 6 sc_law_numbers.nd pd_int)
    (pdss_cons (pds_if (pdt_gt (pd_len (fx.free 3) (pd_var 0)) pd_int)
    (pdss_one (pds_set 6 sc_law_numbers.nd (pd_add (pd_item (pd_var 0) (pd_mod (pd_var 5) (pd_len (fx.free 3) (pd_var 0)))) (pd_mul pd_int (pd_var 5)))))
    pdss_nil)
    (pdss_one (pds_app (i := 4) (pd_mod (pd_mod (pd_mul (pd_mod (pd_mul (pd_var 6) pd_int) pd_int) pd_int) pd_int) pd_int))))))))
    (pdss_one (pds_retV 4))))))⟩
theorem dg_law_numbers_2 (fx : Fx P K mg) : DefG P w K mg base (tab K) 33 "_law_numbers" 2 (fun ds => ds) f_law_numbers := by
  obtain ⟨fd, F, O⟩ := ok_law_numbers (P := P) (w := w) (base := base) fx
  exact ⟨_, fd, ["_law_script", "_law_count"], fx.glo 0, F.kp, conv_pos F rfl (fun _ _ _ _ _ _ us hl => match us, hl with | [_, _], _ => rfl), O⟩
theorem ok_law_product (fx : Fx P K mg) : ∃ fd, FunD K "_law_product" "_law_product" (defArgs s_law_product) (defBody s_law_product) (defScope s_law_product) (h_law_product.dv K) [] ((atG "_law_product") K) fd ∧ FnOk P w K mg base (L2.CX P w) 1 ((atG "_law_product") K) fd ["_law_a", "_law_b"] (spD K (tab K) f_law_product) := by
  obtain ⟨fd, F⟩ := fx.fun_ 1 (d := h_law_product)
  exact ⟨fd, F, fnOk_of F sc_law_product rfl rfl fun cdv A outer s H E hr tk => pdss_cons (pds_setLc (own := [("_law_k", 3)]) rfl sc_law_product.nd rfl rfl (sw_true rfl rfl rfl (by decide +kernel)) (pdi_rng1 (fx.free 1) (pd_add (pd_len (fx.free 3) (pd_var 0)) (pd_len (fx.free 3) (pd_var 1)))) (blkOk_by (by kernel_rfl)) (tg_name (by decide)) (fun s0 H1 C0 cl0 fp0 => pg_name sc_law_product.nd rfl (by first | exact Or.inl rfl | exact Or.inr rfl) (by first | exact .inl rfl | exact .inr rfl)) (fun s0 H1 C0 cl0 fp0 => pdts_nil) (fun s0 H1 C0 cl0 fp0 => pd_int))
    (pdss_cons (pds_for (vs := [4]) PassesOwn.leaving rfl (pdi_rng1 (fx.free 1) (pd_len (fx.free 3) (pd_var 0))) (pg_name sc_law_product.nd rfl (by first | exact Or.inl rfl | exact Or.inr rfl) (by first | exact .inl rfl | exact .inr rfl)) (tg_name (by decide))
    (pdss_one (pds_for (vs := [5]) PassesOwn.leaving rfl (pdi_rng1 (fx.free 1) (pd_len (fx.free 3) (pd_var 1))) (pg_name sc_law_product.nd rfl (by first | exact Or.inl rfl | exact Or.inr rfl) (by first | exact .inl rfl | exact .inr rfl)) (tg_name (by decide))
    (pdss_one (pds_setIx (i := 2) (pd_add (pd_item (pd_var 2) (pd_add (pd_var 4) (pd_var 5))) (pd_mul (pd_item (pd_var 0) (pd_var 4)) (pd_item (pd_var 1) (pd_var 5)))) (pd_add (pd_var 4) (pd_var 5)))))))
    (pdss_one (pds_retV 2)))⟩
theorem dg_law_product_2 (fx : Fx P K mg) : DefG P w K mg base (tab K) 1 "_law_product" 2 (fun ds => ds) f_law_product := by
  obtain ⟨fd, F, O⟩ := ok_law_product (P := P) (w := w) (base := base) fx
  exact ⟨_, fd, ["_law_a", "_law_b"], fx.glo 2, F.kp, conv_pos F rfl (fun _ _ _ _ _ _ us hl => match us, hl with | [_, _], _ => rfl), O⟩
theorem ok_trimmed (fx : Fx P K mg) : ∃ fd, FunD K "trimmed" "trimmed" (defArgs s_trimmed) (defBody s_trimmed) (defScope s_trimmed) (h_trimmed.dv K) [] ((atG "trimmed") K) fd ∧ FnOk P w K mg base (L2.CX P w) 1 ((atG "trimmed") K) fd ["numbers"] (spD K (tab K) f_trimmed) := by
  obtain ⟨fd, F⟩ := fx.fun_ 2 (d := h_trimmed)
  exact ⟨fd, F, fnOk_of F sc_trimmed rfl rfl fun cdv A outer s H E hr tk => pdss_cons (pds_set 1 sc_trimmed.nd (pd_len (fx.free 3) (pd_var 0)))
    (pdss_cons (pds_while PassesOwn.leaving (pdt_of (pdw_and (pdt_gt (pd_var 1) pd_int) (pdw_and1 (pdt_eqS (pd_item (pd_var 0) (pd_sub (pd_var 1) pd_int)) pd_int))))
    (pdss_one (pds_augI ip_sub sc_trimmed.nd pd_int)))
    (pdss_one (pds_ret (pd_slice (pd_var 0) pdo_none (pdo_some (pd_var 1))))))⟩
theorem dg_trimmed_1 (fx : Fx P K mg) : DefG P w K mg base (tab K) 1 "trimmed" 1 (fun ds => ds) f_trimmed := by
  obtain ⟨fd, F, O⟩ := ok_trimmed (P := P) (w := w) (base := base) fx
  exact ⟨_, fd, ["numbers"], fx.glo 15, F.kp, conv_pos F rfl (fun _ _ _ _ _ _ us hl => match us, hl with | [_], _ => rfl), O⟩
theorem ok_content (fx : Fx P K mg) : ∃ fd, FunD K "content" "content" (defArgs s_content) (defBody s_content) (defScope s_content) (h_content.dv K) [] ((atG "content") K) fd ∧ FnOk P w K mg base (L2.CX P w) 1 ((atG "content") K) fd ["numbers"] (spD K (tab K) f_content) := by
  obtain ⟨fd, F⟩ := fx.fun_ 3 (d := h_content)
  exact ⟨fd, F, fnOk_of F sc_content rfl rfl fun cdv A outer s H E hr tk => pdss_cons (pds_set 1 sc_content.nd pd_int)
    (pdss_cons (pds_for (vs := [2]) PassesOwn.leaving rfl (pdi_seq (pd_var 0)) (pg_name sc_content.nd rfl (by first | exact Or.inl rfl | exact Or.inr rfl) (by first | exact .inl rfl | exact .inr rfl)) (tg_name (by decide))
    (pdss_one (pds_set 1 sc_content.nd (pd_gcd (fx.blt 1) (pd_var 1) (pd_var 2)))))
    (pdss_one (pds_retV 1)))⟩
theorem dg_content_1 (fx : Fx P K mg) : DefG P w K mg base (tab K) 1 "content" 1 (fun ds => ds) f_content := by
  obtain ⟨fd, F, O⟩ := ok_content (P := P) (w := w) (base := base) fx
  exact ⟨_, fd, ["numbers"], fx.glo 16, F.kp, conv_pos F rfl (fun _ _ _ _ _ _ us hl => match us, hl with | [_], _ => rfl), O⟩
theorem ok_Poly_init (fx : Fx P K mg) : ∃ fd, FunD K "__init__" "Poly.__init__" (defArgs s_Poly_init) (defBody s_Poly_init) (defScope s_Poly_init) (h_Poly_init.dv K) [] ((atM "Poly" "__init__") K) fd ∧ FnOk P w K mg base (L2.CX P w) 33 ((atM "Poly" "__init__") K) fd ["self", "coefs", "den"] (spI K (tab K) 21 i_Poly) := by
  obtain ⟨fd, F⟩ := fx.fun_ 4 (d := h_Poly_init)
  exact ⟨fd, F, initOk_of F sc_Poly_init rfl rfl rfl fun cdv A outer s H E hr tk => pdss_cons (pds_if (pdt_eqS (pd_var 2) pd_int)
    (pdss_one (pds_raise 1 rfl tk (fx.exc 13) (fx.glo 14)))
    pdss_nil)
    (pdss_cons (pds_set 3 sc_Poly_init.nd (pd_callG (dg_trimmed_1 fx) (hr.mono (by decide)) tk (pda_cons (pd_listf (fx.free 9) (pd_var 1)) pda_nil)))
    (pdss_cons (pds_set 4 sc_Poly_init.nd (pd_bor 3 (pd_gcd (fx.blt 1) (pd_callG (dg_content_1 fx) (hr.mono (by decide)) tk (pda_cons (pd_var 3) pda_nil)) (pd_var 2))))
    (pdss_cons (pds_if (pdt_lt (pd_var 2) pd_int)
    (pdss_one (pds_set 4 sc_Poly_init.nd (pd_neg (pd_var 4))))
    pdss_nil)
    (pdss_cons (pds_fld (i := 0) (cd_Poly fx) rfl (pd_bor 3 (pd_tuplef (fx.free 17) (pd_lc (own := [("number", 5)]) rfl sc_Poly_init.nd (pdi_seq (pd_var 3)) (blkOk_by (by kernel_rfl)) (tg_name (by decide)) (fun s0 H1 C0 cl0 fp0 => pg_name sc_Poly_init.nd rfl (by first | exact Or.inl rfl | exact Or.inr rfl) (by first | exact .inl rfl | exact .inr rfl)) (fun s0 H1 C0 cl0 fp0 => pdts_nil) (fun s0 H1 C0 cl0 fp0 => pd_div ((dv_fn fx.1 (fx.bool 0) sc_Poly_init hr (by decide)).blk _ _ _ _ _) (pd_var 5) (pd_var 4))))))
    (pdss_one (pds_fld (i := 0) (cd_Poly fx) rfl (pd_div (dv_fn fx.1 (fx.bool 0) sc_Poly_init hr (by decide)) (pd_var 2) (pd_var 4))))))))⟩
theorem cg_Poly_2 (fx : Fx P K mg) : ClsG P w K mg base (tab K) 33 "Poly" 21 2 (fun ds => ds) i_Poly := by
  obtain ⟨fd, F, O⟩ := ok_Poly_init (P := P) (w := w) (base := base) fx
  exact ⟨_, fd, ["self", "coefs", "den"], fx.glo 4, (fx.mkr 5).kp, fx.mkr 5, convI_full (convI_dfl F 2 1 [] (fun Z => .nil) (List.cons_ne_nil _ _) rfl (fun _ _ _ _ _ _ _ us its h1 h2 => match us, h1, its, h2 with | [_, _, _], _, [_], _ => ⟨_, rfl, rfl⟩)), O⟩
theorem cg_Poly_1 (fx : Fx P K mg) : ClsG P w K mg base (tab K) 33 "Poly" 21 1 (fun ds => ds ++ [(.int 1)]) i_Poly := by
  obtain ⟨fd, F, O⟩ := ok_Poly_init (P := P) (w := w) (base := base) fx
  exact ⟨_, fd, ["self", "coefs", "den"], fx.glo 4, (fx.mkr 5).kp, fx.mkr 5, convI_dfl F 1 0 [(.int 1)] (fun Z => .cons (by simp only [Rep]; rfl) .nil) (List.cons_ne_nil _ _) rfl (fun _ _ _ _ _ _ _ us its h1 h2 => match us, h1, its, h2 with | [_, _], _, [_], _ => ⟨_, rfl, rfl⟩), O⟩
theorem ok_law_sorted_roots (fx : Fx P K mg) : ∃ fd, FunD K "_law_sorted_roots" "_law_sorted_roots" (defArgs s_law_sorted_roots) (defBody s_law_sorted_roots) (defScope s_law_sorted_roots) (h_law_sorted_roots.dv K) [] ((atG "_law_sorted_roots") K) fd ∧ FnOk P w K mg base (L2.CX P w) 1 ((atG "_law_sorted_roots") K) fd ["_law_roots", "_law_low", "_law_high"] (spD K (tab K) f_law_sorted_roots) := by
  obtain ⟨fd, F⟩ := fx.fun_ 5 (d := h_law_sorted_roots)
  exact ⟨fd, F, fnOk_of F sc_law_sorted_roots rfl rfl fun cdv A outer s H E hr tk => pdss_cons (pds_set 3 sc_law_sorted_roots.nd (pd_lst pda_nil))
    (pdss_cons (pds_for (vs := [4]) PassesOwn.leaving rfl (pdi_seq (pd_sorted (fx.free 18) (pd_var 0))) (pg_name sc_law_sorted_roots.nd rfl (by first | exact Or.inl rfl | exact Or.inr rfl) (by first | exact .inl rfl | exact .inr rfl)) (tg_name (by decide))
    (pdss_one (pds_if (pdt_of (pdw_and (pdt_chain op_le op_le (fun _ => o2_B0) o2_B0 (pd_var 1) (pd_var 4) (pd_var 2) (by with_unfolding_all rfl)) (pdw_and1 (pdt_notinD hr (pd_var 4) (pd_var 3)))))
    (pdss_one (pds_app (i := 3) (pd_var 4)))
    pdss_nil)))
    (pdss_one (pds_retV 3)))⟩
theorem dg_law_sorted_roots_3 (fx : Fx P K mg) : DefG P w K mg base (tab K) 1 "_law_sorted_roots" 3 (fun ds => ds) f_law_sorted_roots := by
  obtain ⟨fd, F, O⟩ := ok_law_sorted_roots (P := P) (w := w) (base := base) fx
  exact ⟨_, fd, ["_law_roots", "_law_low", "_law_high"], fx.glo 6, F.kp, conv_pos F rfl (fun _ _ _ _ _ _ us hl => match us, hl with | [_, _, _], _ => rfl), O⟩
theorem ok_Poly_is_zero (fx : Fx P K mg) : ∃ fd, FunD K "is_zero" "Poly.is_zero" (defArgs s_Poly_is_zero) (defBody s_Poly_is_zero) (defScope s_Poly_is_zero) (h_Poly_is_zero.dv K) [] ((behind "property" "Poly" "is_zero") K) fd ∧ FnOk P w K mg base (L2.CX P w) 1 ((behind "property" "Poly" "is_zero") K) fd ["self"] (spD K (tab K) f_Poly_is_zero) := by
  obtain ⟨fd, F⟩ := fx.fun_ 6 (d := h_Poly_is_zero)
  exact ⟨fd, F, fnOk_of F sc_Poly_is_zero rfl rfl fun cdv A outer s H E hr tk => pdss_one (pds_ret (pd_eqS (pd_len (fx.free 3) (pd_fld (tbl [(21, 0)]) (tbl_all (all_cons (⟨(cd_Poly fx), rfl⟩) all_nil)) (pd_var 0))) pd_int))⟩
theorem po_Poly_is_zero (fx : Fx P K mg) : PropOk P w K mg base (tab K) 1 21 "is_zero" f_Poly_is_zero := by
  obtain ⟨fd, F, O⟩ := ok_Poly_is_zero (P := P) (w := w) (base := base) fx
  exact ⟨cd_Poly fx, _, _, fd, ["self"], propB_ok (fx.bool 2), FunD.bindsN F (fun _ _ _ _ _ _ us hl => match us, hl with | [_], _ => rfl), O⟩
theorem ok_Poly_shifted (fx : Fx P K mg) : ∃ fd, FunD K "shifted" "Poly.shifted" (defArgs s_Poly_shifted) (defBody s_Poly_shifted) (defScope s_Poly_shifted) (h_Poly_shifted.dv K) [] ((atM "Poly" "shifted") K) fd ∧ FnOk P w K mg base (L2.CX P w) 35 ((atM "Poly" "shifted") K) fd ["self", "step"] (spD K (tab K) f_Poly_shifted) := by
  obtain ⟨fd, F⟩ := fx.fun_ 7 (d := h_Poly_shifted)
  exact ⟨fd, F, fnOk_of F sc_Poly_shifted rfl rfl fun cdv A outer s H E hr tk => pdss_cons (pds_set 2 sc_Poly_shifted.nd (pd_listf (fx.free 9) (pd_fld (tbl [(21, 0)]) (tbl_all (all_cons (⟨(cd_Poly fx), rfl⟩) all_nil)) (pd_var 0))))
    (pdss_cons (pds_for (vs := [3]) PassesOwn.leaving rfl (pdi_rng1 (fx.free 1) (pd_sub (pd_len (fx.free 3) (pd_var 2)) pd_int)) (pg_name sc_Poly_shifted.nd rfl (by first | exact Or.inl rfl | exact Or.inr rfl) (by first | exact .inl rfl | exact .inr rfl)) (tg_name (by decide))
    (pdss_one (pds_for (vs := [4]) PassesOwn.leaving rfl (pdi_rngD (fx.free 1) (pd_sub (pd_len (fx.free 3) (pd_var 2)) pd_int) (pd_sub (pd_var 3) pd_int)) (pg_name sc_Poly_shifted.nd rfl (by first | exact Or.inl rfl | exact Or.inr rfl) (by first | exact .inl rfl | exact .inr rfl)) (tg_name (by decide))
    (pdss_one (pds_setIx (i := 2) (pd_add (pd_item (pd_var 2) (pd_var 4)) (pd_mul (pd_var 1) (pd_item (pd_var 2) (pd_add (pd_var 4) pd_int)))) (pd_var 4))))))
    (pdss_one (pds_ret (pd_bor 2 (pd_callCG (cg_Poly_2 fx) (hr.mono (by decide)) tk (pda_cons (pd_var 2) (pda_cons (pd_fld (tbl [(21, 1)]) (tbl_all (all_cons (⟨(cd_Poly fx), rfl⟩) all_nil)) (pd_var 0)) pda_nil)))))))⟩
theorem mo_Poly_shifted_2 (fx : Fx P K mg) : MethOk P w K mg base (tab K) 35 21 "shifted" 2 (fun ds => ds) f_Poly_shifted := by
  obtain ⟨fd, F, O⟩ := ok_Poly_shifted (P := P) (w := w) (base := base) fx
  exact ⟨cd_Poly fx, (by show ("shifted" : Str) ∉ fls 21; decide), _, fd, ["self", "step"], fx.meth 23, conv_pos F rfl (fun _ _ _ _ _ _ us hl => match us, hl with | [_, _], _ => rfl), O⟩
theorem ok_is_settled (fx : Fx P K mg) : ∃ fd, FunD K "is_settled" "is_settled" (defArgs s_is_settled) (defBody s_is_settled) (defScope s_is_settled) (h_is_settled.dv K) [] ((atG "is_settled") K) fd ∧ FnOk P w K mg base (L2.CX P w) 3 ((atG "is_settled") K) fd ["p"] (spD K (tab K) f_is_settled) := by
  obtain ⟨fd, F⟩ := fx.fun_ 8 (d := h_is_settled)
  exact ⟨fd, F, fnOk_of F sc_is_settled rfl rfl fun cdv A outer s H E hr tk => pdss_cons (pds_if (pdt_of (pdw_or (pdt_tru (pd_att (k := 1) (tbl []) (tbl [(21, f_Poly_is_zero)]) (tbl_all (all_nil)) (tbl_all (all_cons ((po_Poly_is_zero fx).mono (by decide)) all_nil)) (hr.mono (by decide)) (pd_var 0))) (pdw_or1 (pdt_eqS (pd_item (pd_fld (tbl [(21, 0)]) (tbl_all (all_cons (⟨(cd_Poly fx), rfl⟩) all_nil)) (pd_var 0)) pd_int) pd_int))))
    (pdss_one (pds_ret pd_bl))
    pdss_nil)
    (pdss_cons (pds_if (pdt_gt (pd_item (pd_fld (tbl [(21, 0)]) (tbl_all (all_cons (⟨(cd_Poly fx), rfl⟩) all_nil)) (pd_var 0)) pd_int) pd_int)
    (pdss_one (pds_ret (pd_ge (pd_minS rfl hr (fx.free 25) (pd_fld (tbl [(21, 0)]) (tbl_all (all_cons (⟨(cd_Poly fx), rfl⟩) all_nil)) (pd_var 0))) pd_int)))
    pdss_nil)
    (pdss_one (pds_ret (pd_le (pd_maxS rfl hr (fx.free 26) (pd_fld (tbl [(21, 0)]) (tbl_all (all_cons (⟨(cd_Poly fx), rfl⟩) all_nil)) (pd_var 0))) pd_int))))⟩
theorem dg_is_settled_1 (fx : Fx P K mg) : DefG P w K mg base (tab K) 3 "is_settled" 1 (fun ds => ds) f_is_settled := by
  obtain ⟨fd, F, O⟩ := ok_is_settled (P := P) (w := w) (base := base) fx
  exact ⟨_, fd, ["p"], fx.glo 24, F.kp, conv_pos F rfl (fun _ _ _ _ _ _ us hl => match us, hl with | [_], _ => rfl), O⟩
theorem ok_settled_from (fx : Fx P K mg) : ∃ fd, FunD K "settled_from" "settled_from" (defArgs s_settled_from) (defBody s_settled_from) (defScope s_settled_from) (h_settled_from.dv K) [] ((atG "settled_from") K) fd ∧ FnOk P w K mg base (L2.CX P w) 36 ((atG "settled_from") K) fd ["p", "start"] (spD K (tab K) f_settled_from) := by
  obtain ⟨fd, F⟩ := fx.fun_ 9 (d := h_settled_from)
  exact ⟨fd, F, fnOk_of F sc_settled_from rfl rfl fun cdv A outer s H E hr tk => pdss_cons (pds_if (pdt_tru (pd_att (k := 1) (tbl []) (tbl [(21, f_Poly_is_zero)]) (tbl_all (all_nil)) (tbl_all (all_cons ((po_Poly_is_zero fx).mono (by decide)) all_nil)) (hr.mono (by decide)) (pd_var 0)))
    (pdss_one (pds_raise 2 rfl tk (fx.exc 21) (fx.glo 22)))
    pdss_nil)
    (pdss_cons (pds_if (pdt_tru (pd_callG (dg_is_settled_1 fx) (hr.mono (by decide)) tk (pda_cons (pd_meth (k := 35) (meths_cons ((mo_Poly_shifted_2 fx).mono (by decide)) meths_nil) (hr.mono (by decide)) tk (pd_var 0) (pda_cons (pd_var 1) pda_nil)) pda_nil)))
    (pdss_one (pds_retV 1))
    pdss_nil)
    (pdss_cons (pds_set 2 sc_settled_from.nd pd_int)
    (pdss_cons (pds_while PassesOwn.leaving (pdt_not (pdt_tru (pd_callG (dg_is_settled_1 fx) (hr.mono (by decide)) tk (pda_cons (pd_meth (k := 35) (meths_cons ((mo_Poly_shifted_2 fx).mono (by decide)) meths_nil) (hr.mono (by decide)) tk (pd_var 0) (pda_cons (pd_add (pd_var 1) (pd_var 2)) pda_nil)) pda_nil))))
    (pdss_one (pds_set 2 sc_settled_from.nd (pd_mul (pd_var 2) pd_int))))
    (pdss_cons (pds_set 3 sc_settled_from.nd (pd_add (pd_var 1) (pd_div (dv_fn fx.1 (fx.bool 0) sc_settled_from hr (by decide)) (pd_var 2) pd_int)))
    (pdss_cons (pds_set 4 sc_settled_from.nd (pd_add (pd_var 1) (pd_var 2)))
    (pdss_cons (pds_while PassesOwn.leaving (pdt_gt (pd_sub (pd_var 4) (pd_var 3)) pd_int)
    (pdss_cons (pds_set 5 sc_settled_from.nd (pd_div (dv_fn fx.1 (fx.bool 0) sc_settled_from hr (by decide)) (pd_add (pd_var 3) (pd_var 4)) pd_int))
    (pdss_one (pds_if (pdt_tru (pd_callG (dg_is_settled_1 fx) (hr.mono (by decide)) tk (pda_cons (pd_meth (k := 35) (meths_cons ((mo_Poly_shifted_2 fx).mono (by decide)) meths_nil) (hr.mono (by decide)) tk (pd_var 0) (pda_cons (pd_var 5) pda_nil)) pda_nil)))
    (pdss_one (pds_set 4 sc_settled_from.nd (pd_var 5)))
    (pdss_one (pds_set 3 sc_settled_from.nd (pd_var 5)))))))
    (pdss_one (pds_retV 4))))))))⟩
theorem dk_settled_from_1 (fx : Fx P K mg) : DefK P w K mg base (tab K) 36 "settled_from" 1 ["start"] f_settled_from := by
  obtain ⟨fd, F, O⟩ := ok_settled_from (P := P) (w := w) (base := base) fx
  exact ⟨_, fd, ["p", "start"], fx.glo 19, F.kp, conv_kw F (fun _ _ _ _ _ _ us ws h1 h2 => match us, h1, ws, h2 with | [_], _, [_], _ => rfl), O⟩
theorem ok_may_have_root (fx : Fx P K mg) : ∃ fd, FunD K "may_have_root" "may_have_root" (defArgs s_may_have_root) (defBody s_may_have_root) (defScope s_may_have_root) (h_may_have_root.dv K) [] ((atG "may_have_root") K) fd ∧ FnOk P w K mg base (L2.CX P w) 36 ((atG "may_have_root") K) fd ["p", "low", "high"] (spD K (tab K) f_may_have_root) := by
  obtain ⟨fd, F⟩ := fx.fun_ 10 (d := h_may_have_root)
  exact ⟨fd, F, fnOk_of F sc_may_have_root rfl rfl fun cdv A outer s H E hr tk => pdss_cons (pds_set 3 sc_may_have_root.nd (pd_fld (tbl [(21, 0)]) (tbl_all (all_cons (⟨(cd_Poly fx), rfl⟩) all_nil)) (pd_meth (k := 35) (meths_cons ((mo_Poly_shifted_2 fx).mono (by decide)) meths_nil) (hr.mono (by decide)) tk (pd_var 0) (pda_cons (pd_var 1) pda_nil))))
    (pdss_cons (pds_set 4 sc_may_have_root.nd pd_int)
    (pdss_cons (pds_for (vs := [5]) PassesOwn.leaving rfl (pdi_rev (fx.free 28) (pd_slice (pd_var 3) (pdo_some pd_int) pdo_none)) (pg_name sc_may_have_root.nd rfl (by first | exact Or.inl rfl | exact Or.inr rfl) (by first | exact .inl rfl | exact .inr rfl)) (tg_name (by decide))
    (pdss_one (pds_set 4 sc_may_have_root.nd (pd_mul (pd_add (pd_var 4) (pd_abs (fx.free 29) (pd_var 5))) (pd_sub (pd_var 2) (pd_var 1))))))
    (pdss_one (pds_ret (pd_le (pd_abs (fx.free 29) (pd_item (pd_var 3) pd_int)) (pd_var 4))))))⟩
theorem dg_may_have_root_3 (fx : Fx P K mg) : DefG P w K mg base (tab K) 36 "may_have_root" 3 (fun ds => ds) f_may_have_root := by
  obtain ⟨fd, F, O⟩ := ok_may_have_root (P := P) (w := w) (base := base) fx
  exact ⟨_, fd, ["p", "low", "high"], fx.glo 27, F.kp, conv_pos F rfl (fun _ _ _ _ _ _ us hl => match us, hl with | [_, _, _], _ => rfl), O⟩
theorem ok_roots_between (fx : Fx P K mg) : ∃ fd, FunD K "roots_between" "roots_between" (defArgs s_roots_between) (defBody s_roots_between) (defScope s_roots_between) (h_roots_between.dv K) [] ((atG "roots_between") K) fd ∧ FnOk P w K mg base (L2.CX P w) 37 ((atG "roots_between") K) fd ["p", "low", "high"] (spD K (tab K) f_roots_between) := by
  obtain ⟨fd, F⟩ := fx.fun_ 11 (d := h_roots_between)
  exact ⟨fd, F, fnOk_of F sc_roots_between rfl rfl fun cdv A outer s H E hr tk => pdss_cons (pds_if (pdt_tru (pd_att (k := 1) (tbl []) (tbl [(21, f_Poly_is_zero)]) (tbl_all (all_nil)) (tbl_all (all_cons ((po_Poly_is_zero fx).mono (by decide)) all_nil)) (hr.mono (by decide)) (pd_var 0)))
    (pdss_one (pds_raise 2 rfl tk (fx.exc 21) (fx.glo 22)))
    pdss_nil)
    (pdss_cons (pds_set 3 sc_roots_between.nd (pd_lst pda_nil))
    (pdss_cons (pds_set 4 sc_roots_between.nd (pd_lst pda_nil))
    (pdss_cons (pds_if (pdt_le (pd_var 1) (pd_var 2))
    (pdss_one (pds_app (i := 4) (pd_tup (pda_cons (pd_var 1) (pda_cons (pd_var 2) pda_nil)))))
    pdss_nil)
    (pdss_cons (pds_while PassesOwn.leaving (pdt_gt (pd_len (fx.free 3) (pd_var 4)) pd_int)
    (pdss_cons (pds_popT (i := 4) [5, 6] rfl (pgs_name sc_roots_between.nd (pgs_name sc_roots_between.nd pgs_none)))
    (pdss_one (pds_if (pdt_tru (pd_callG (dg_may_have_root_3 fx) (hr.mono (by decide)) tk (pda_cons (pd_var 0) (pda_cons (pd_var 5) (pda_cons (pd_var 6) pda_nil)))))
    (pdss_one (pds_if (pdt_eqS (pd_var 5) (pd_var 6))
    (pdss_one (pds_app (i := 3) (pd_var 5)))
    (pdss_cons (pds_set 7 sc_roots_between.nd (pd_div (dv_fn fx.1 (fx.bool 0) sc_roots_between hr (by decide)) (pd_add (pd_var 5) (pd_var 6)) pd_int))
    (pdss_cons (pds_app (i := 4) (pd_tup (pda_cons (pd_add (pd_var 7) pd_int) (pda_cons (pd_var 6) pda_nil))))
    (pdss_one (pds_app (i := 4) (pd_tup (pda_cons (pd_var 5) (pda_cons (pd_var 7) pda_nil)))))))))
    pdss_nil))))
    (pdss_one (pds_retV 3))))))⟩
theorem dk_roots_between_1 (fx : Fx P K mg) : DefK P w K mg base (tab K) 37 "roots_between" 1 ["low", "high"] f_roots_between := by
  obtain ⟨fd, F, O⟩ := ok_roots_between (P := P) (w := w) (base := base) fx
  exact ⟨_, fd, ["p", "low", "high"], fx.glo 20, F.kp, conv_kw F (fun _ _ _ _ _ _ us ws h1 h2 => match us, h1, ws, h2 with | [_], _, [_, _], _ => rfl), O⟩
theorem ok_roots_from (fx : Fx P K mg) : ∃ fd, FunD K "roots_from" "roots_from" (defArgs s_roots_from) (defBody s_roots_from) (defScope s_roots_from) (h_roots_from.dv K) [] ((atG "roots_from") K) fd ∧ FnOk P w K mg base (L2.CX P w) 38 ((atG "roots_from") K) fd ["p", "start"] (spD K (tab K) f_roots_from) := by
  obtain ⟨fd, F⟩ := fx.fun_ 12 (d := h_roots_from)
  exact ⟨fd, F, fnOk_of F sc_roots_from rfl rfl fun cdv A outer s H E hr tk => pdss_cons (pds_set 2 sc_roots_from.nd (pd_sub (pd_callK (dk_settled_from_1 fx) (hr.mono (by decide)) tk (pda_cons (pd_var 0) pda_nil) (pdk_cons (pd_var 1) pdk_nil)) pd_int))
    (pdss_one (pds_ret (pd_callK (dk_roots_between_1 fx) (hr.mono (by decide)) tk (pda_cons (pd_var 0) pda_nil) (pdk_cons (pd_var 1) (pdk_cons (pd_var 2) pdk_nil)))))⟩
theorem dk_roots_from_1 (fx : Fx P K mg) : DefK P w K mg base (tab K) 38 "roots_from" 1 ["start"] f_roots_from := by
  obtain ⟨fd, F, O⟩ := ok_roots_from (P := P) (w := w) (base := base) fx
  exact ⟨_, fd, ["p", "start"], fx.glo 7, F.kp, conv_kw F (fun _ _ _ _ _ _ us ws h1 h2 => match us, h1, ws, h2 with | [_], _, [_], _ => rfl), O⟩
theorem ok_law_is_integer (fx : Fx P K mg) : ∃ fd, FunD K "_law_is_integer" "_law_is_integer" (defArgs s_law_is_integer) (defBody s_law_is_integer) (defScope s_law_is_integer) (h_law_is_integer.dv K) [] ((atG "_law_is_integer") K) fd ∧ FnOk P w K mg base (L2.CX P w) 1 ((atG "_law_is_integer") K) fd ["_law_x"] (spD K (tab K) f_law_is_integer) := by
  obtain ⟨fd, F⟩ := fx.fun_ 13 (d := h_law_is_integer)
  exact ⟨fd, F, fnOk_of F sc_law_is_integer rfl rfl fun cdv A outer s H E hr tk => pdss_one (pds_ret (pd_and' (pd_isT "int" [] (all_nil) (fx.free 8) (fx.free 31) (pd_var 0) PyProof.Rows.boot_int) (pd_one (pd_not (pd_isT "bool" [] (all_nil) (fx.free 8) (fx.free 30) (pd_var 0) PyProof.Rows.boot_bool)))))⟩
theorem dg_law_is_integer_1 (fx : Fx P K mg) : DefG P w K mg base (tab K) 1 "_law_is_integer" 1 (fun ds => ds) f_law_is_integer := by
  obtain ⟨fd, F, O⟩ := ok_law_is_integer (P := P) (w := w) (base := base) fx
  exact ⟨_, fd, ["_law_x"], fx.glo 10, F.kp, conv_pos F rfl (fun _ _ _ _ _ _ us hl => match us, hl with | [_], _ => rfl), O⟩
theorem ok_free_from (fx : Fx P K mg) : ∃ fd, FunD K "free_from" "free_from" (defArgs s_free_from) (defBody s_free_from) (defScope s_free_from) (h_free_from.dv K) [] ((atG "free_from") K) fd ∧ FnOk P w K mg base (L2.CX P w) 39 ((atG "free_from") K) fd ["p", "start"] (spD K (tab K) f_free_from) := by
  obtain ⟨fd, F⟩ := fx.fun_ 14 (d := h_free_from)
  exact ⟨fd, F, fnOk_of F sc_free_from rfl rfl fun cdv A outer s H E hr tk => pdss_cons (pds_set 2 sc_free_from.nd (pd_callK (dk_roots_from_1 fx) (hr.mono (by decide)) tk (pda_cons (pd_var 0) pda_nil) (pdk_cons (pd_var 1) pdk_nil)))
    (pdss_cons (pds_if (pdt_eqS (pd_len (fx.free 3) (pd_var 2)) pd_int)
    (pdss_one (pds_retV 1))
    pdss_nil)
    (pdss_one (pds_ret (pd_add (pd_item (pd_var 2) (pd_neg pd_int)) pd_int))))⟩
theorem dk_free_from_1 (fx : Fx P K mg) : DefK P w K mg base (tab K) 39 "free_from" 1 ["start"] f_free_from := by
  obtain ⟨fd, F, O⟩ := ok_free_from (P := P) (w := w) (base := base) fx
  exact ⟨_, fd, ["p", "start"], fx.glo 11, F.kp, conv_kw F (fun _ _ _ _ _ _ us ws h1 h2 => match us, h1, ws, h2 with | [_], _, [_], _ => rfl), O⟩
theorem ok_law_refuse (fx : Fx P K mg) : ∃ fd, FunD K "_law_refuse" "_law_refuse" (defArgs s_law_refuse) (defBody s_law_refuse) (defScope s_law_refuse) (h_law_refuse.dv K) [] ((atG "_law_refuse") K) fd ∧ FnOk P w K mg base (L2.CX P w) 40 ((atG "_law_refuse") K) fd ["_law_start"] (spD K (tab K) f_law_refuse) := by
  obtain ⟨fd, F⟩ := fx.fun_ 15 (d := h_law_refuse)
  exact ⟨fd, F, fnOk_of F sc_law_refuse rfl rfl fun cdv A outer s H E hr tk => pdss_cons (pds_set 1 sc_law_refuse.nd pd_int)
    (pdss_cons (pds_tryIf (i := 2) (tbl [(1, false), (2, true)]) (tbl [(2, true)]) rfl rfl sc_law_refuse.nd rfl rfl (names_own (fx.glo 22)) tk (fun W1 pn1 xe1 tk po1 => pdss_one (pds_expr (pd_callK (dk_roots_from_1 fx) (hr.mono (by decide)) tk (pda_cons (pd_callCG (cg_Poly_1 fx) (hr.mono (by decide)) tk (pda_cons (pd_lst pda_nil) pda_nil)) pda_nil) (pdk_cons (pd_var 0) pdk_nil)))) (tbl_all (all_cons (He.exm_ok (fx.fact 32)) (all_cons (He.exm_ok (fx.fact 33)) all_nil))) (tbl_all (Q := fun c r => ∀ (a : Addr) (oe : Obj) (pn : List (Addr × Obj)), Zc (.ref ((tab K).ca c)) none oe → (∃ vs, oe.data = .fields vs) → PE (Cx.suite _ a ((a, oe) :: pn)) _ (tK 2 a r)) (all_cons (fun a oe pn hz hv => pk_val (b := true) (pk_is (i := 2) (b := true) (D := He.ga K "ZeroPolynomial") (v := .ref (He.ga K "SummationError")) (cv := .ref (He.ga K "SummationError")) (excB_ok (C := "ZeroPolynomial") (fx.bool 3) (fx.bool 4)) hz hv (fx.free 8) (pe_glob (v := .ref (He.ga K "SummationError")) rfl (fx.glo 34) rfl) (fun _ r => r) (of_decide_eq_true (fx.bool 5))) rfl) all_nil)) (fun a oe pn => pdss_one (pds_set 1 sc_law_refuse.nd (pd_add (pd_var 1) pd_int))))
    (pdss_cons (pds_tryIf (i := 2) (tbl [(1, false), (2, true)]) (tbl [(2, true)]) rfl rfl sc_law_refuse.nd rfl rfl (names_own (fx.glo 22)) tk (fun W1 pn1 xe1 tk po1 => pdss_one (pds_expr (pd_callK (dk_free_from_1 fx) (hr.mono (by decide)) tk (pda_cons (pd_callCG (cg_Poly_1 fx) (hr.mono (by decide)) tk (pda_cons (pd_lst pda_nil) pda_nil)) pda_nil) (pdk_cons (pd_var 0) pdk_nil)))) (tbl_all (all_cons (He.exm_ok (fx.fact 32)) (all_cons (He.exm_ok (fx.fact 33)) all_nil))) (tbl_all (Q := fun c r => ∀ (a : Addr) (oe : Obj) (pn : List (Addr × Obj)), Zc (.ref ((tab K).ca c)) none oe → (∃ vs, oe.data = .fields vs) → PE (Cx.suite _ a ((a, oe) :: pn)) _ (tK 2 a r)) (all_cons (fun a oe pn hz hv => pk_val (b := true) (pk_is (i := 2) (b := true) (D := He.ga K "ZeroPolynomial") (v := .ref (He.ga K "SummationError")) (cv := .ref (He.ga K "SummationError")) (excB_ok (C := "ZeroPolynomial") (fx.bool 3) (fx.bool 4)) hz hv (fx.free 8) (pe_glob (v := .ref (He.ga K "SummationError")) rfl (fx.glo 34) rfl) (fun _ r => r) (of_decide_eq_true (fx.bool 5))) rfl) all_nil)) (fun a oe pn => pdss_one (pds_set 1 sc_law_refuse.nd (pd_add (pd_var 1) pd_int))))
    (pdss_one (pds_ret (pd_eqS (pd_var 1) pd_int)))))⟩
theorem dg_law_refuse_1 (fx : Fx P K mg) : DefG P w K mg base (tab K) 40 "_law_refuse" 1 (fun ds => ds) f_law_refuse := by
  obtain ⟨fd, F, O⟩ := ok_law_refuse (P := P) (w := w) (base := base) fx
  exact ⟨_, fd, ["_law_start"], fx.glo 12, F.kp, conv_pos F rfl (fun _ _ _ _ _ _ us hl => match us, hl with | [_], _ => rfl), O⟩
theorem ok_law (fx : Fx P K mg) {f : Addr} {fd : FuncData} (F : FunD K "law" "law" (defArgs s_law) (defBody s_law) (defScope s_law) [] [] f fd) : FnOk P w K mg base (L2.CX P w) 41 f fd ["_law_script"] (spD K (tab K) f_law) :=
  fnOk_of F sc_law rfl rfl fun cdv A outer s H E hr tk => pdss_cons (pds_set 1 sc_law.nd (pd_callG (dg_law_numbers_2 fx) (hr.mono (by decide)) tk (pda_cons (pd_var 0) (pda_cons pd_int pda_nil))))
    (pdss_cons (pds_set 2 sc_law.nd (pd_lst (pda_cons (pd_sub (pd_mod (pd_item (pd_var 1) pd_int) pd_int) pd_int) pda_nil)))
    (pdss_cons (pds_if (pdt_ge (pd_item (pd_var 2) pd_int) pd_int)
    (pdss_one (pds_setIx (i := 2) (pd_add (pd_item (pd_var 2) pd_int) pd_int) pd_int))
    pdss_nil)
    (pdss_cons (pds_set 3 sc_law.nd (pd_lst pda_nil))
    (pdss_cons (pds_for (vs := [4]) PassesOwn.leaving rfl (pdi_rng1 (fx.free 1) (pd_mod (pd_item (pd_var 1) pd_int) pd_int)) (pg_name sc_law.nd rfl (by first | exact Or.inl rfl | exact Or.inr rfl) (by first | exact .inl rfl | exact .inr rfl)) (tg_name (by decide))
    (pdss_cons (pds_set 5 sc_law.nd (pd_add (pd_mod (pd_item (pd_var 1) (pd_add pd_int (pd_var 4))) pd_int) pd_int))
    (pdss_cons (pds_set 6 sc_law.nd (pd_sub (pd_mod (pd_div (dv_fn fx.1 (fx.bool 0) sc_law hr (by decide)) (pd_item (pd_var 1) (pd_add pd_int (pd_var 4))) pd_int) pd_int) pd_int))
    (pdss_cons (pds_if (pdt_eqS (pd_mod (pd_div (dv_fn fx.1 (fx.bool 0) sc_law hr (by decide)) (pd_item (pd_var 1) (pd_add pd_int (pd_var 4))) pd_int) pd_int) pd_int)
    (pdss_one (pds_set 6 sc_law.nd (pd_add (pd_var 6) (pd_mul (pd_var 5) (pd_pow pd_int pd_int)))))
    pdss_nil)
    (pdss_cons (pds_frz 2 (pds_set 2 sc_law.nd (pd_callG (dg_law_product_2 fx) (hr.mono (by decide)) tk (pda_cons (pd_var 2) (pda_cons (pd_lst (pda_cons (pd_neg (pd_var 6)) (pda_cons (pd_var 5) pda_nil))) pda_nil)))))
    (pdss_one (pds_if (pdt_eqS (pd_mod (pd_var 6) (pd_var 5)) pd_int)
    (pdss_one (pds_app (i := 3) (pd_div (dv_fn fx.1 (fx.bool 0) sc_law hr (by decide)) (pd_var 6) (pd_var 5))))
    pdss_nil)))))))
    (pdss_cons (pds_if (pdt_eqS (pd_mod (pd_item (pd_var 1) pd_int) pd_int) pd_int)
    (pdss_one (pds_frz 2 (pds_set 2 sc_law.nd (pd_callG (dg_law_product_2 fx) (hr.mono (by decide)) tk (pda_cons (pd_var 2) (pda_cons (pd_lst (pda_cons (pd_add (pd_mod (pd_item (pd_var 1) pd_int) pd_int) pd_int) (pda_cons pd_int (pda_cons pd_int pda_nil)))) pda_nil))))))
    pdss_nil)
    (pdss_cons (pds_set 7 sc_law.nd (pd_sub (pd_mod (pd_item (pd_var 1) pd_int) pd_int) pd_int))
    (pdss_cons (pds_if (pdt_of (pdw_and (pdt_eqS (pd_mod (pd_div (dv_fn fx.1 (fx.bool 0) sc_law hr (by decide)) (pd_item (pd_var 1) pd_int) pd_int) pd_int) pd_int) (pdw_and1 (pdt_gt (pd_len (fx.free 3) (pd_var 3)) pd_int))))
    (pdss_one (pds_set 7 sc_law.nd (pd_add (pd_item (pd_var 3) pd_int) (pd_mod (pd_item (pd_var 1) pd_int) pd_int))))
    pdss_nil)
    (pdss_cons (pds_set 8 sc_law.nd (pd_bor 2 (pd_callCG (cg_Poly_2 fx) (hr.mono (by decide)) tk (pda_cons (pd_var 2) (pda_cons (pd_add (pd_mod (pd_div (dv_fn fx.1 (fx.bool 0) sc_law hr (by decide)) (pd_item (pd_var 1) pd_int) pd_int) pd_int) pd_int) pda_nil)))))
    (pdss_cons (pds_frz 3 (pds_set 9 sc_law.nd (pd_callG (dg_law_sorted_roots_3 fx) (hr.mono (by decide)) tk (pda_cons (pd_var 3) (pda_cons (pd_var 7) (pda_cons (pd_pow pd_int pd_int) pda_nil))))))
    (pdss_cons (pds_set 10 sc_law.nd (pd_callK (dk_roots_from_1 fx) (hr.mono (by decide)) tk (pda_cons (pd_var 8) pda_nil) (pdk_cons (pd_var 7) pdk_nil)))
    (pdss_cons (pds_if (pdt_bor 10 (pdt_of (pdw_or (pdt_not (pdt_tru (pd_isT "list" [] (all_nil) (fx.free 8) (fx.free 9) (pd_var 10) PyProof.Rows.boot_list))) (pdw_or1 (pdt_neS (pd_len (fx.free 3) (pd_var 10)) (pd_len (fx.free 3) (pd_var 9)))))))
    (pdss_one (pds_ret pd_bl))
    pdss_nil)
    (pdss_cons (pds_set 11 sc_law.nd (pd_var 7))
    (pdss_cons (pds_for (vs := [4]) PassesOwn.leaving rfl (pdi_rng1 (fx.free 1) (pd_len (fx.free 3) (pd_var 9))) (pg_name sc_law.nd rfl (by first | exact Or.inl rfl | exact Or.inr rfl) (by first | exact .inl rfl | exact .inr rfl)) (tg_name (by decide))
    (pdss_cons (pds_if (pdt_of (pdw_or (pdt_not (pdt_tru (pd_callG (dg_law_is_integer_1 fx) (hr.mono (by decide)) tk (pda_cons (pd_item (pd_var 10) (pd_var 4)) pda_nil)))) (pdw_or1 (pdt_neS (pd_item (pd_var 10) (pd_var 4)) (pd_item (pd_var 9) (pd_var 4))))))
    (pdss_one (pds_ret pd_bl))
    pdss_nil)
    (pdss_one (pds_set 11 sc_law.nd (pd_add (pd_item (pd_var 9) (pd_var 4)) pd_int)))))
    (pdss_cons (pds_app (i := 10) (pd_var 7))
    (pdss_cons (pds_if (pdt_neD hr (pd_callK (dk_roots_from_1 fx) (hr.mono (by decide)) tk (pda_cons (pd_var 8) pda_nil) (pdk_cons (pd_var 7) pdk_nil)) (pd_var 9))
    (pdss_one (pds_ret pd_bl))
    pdss_nil)
    (pdss_cons (pds_set 12 sc_law.nd (pd_callK (dk_free_from_1 fx) (hr.mono (by decide)) tk (pda_cons (pd_var 8) pda_nil) (pdk_cons (pd_var 7) pdk_nil)))
    (pdss_one (pds_ret (pd_and' (pd_callG (dg_law_is_integer_1 fx) (hr.mono (by decide)) tk (pda_cons (pd_var 12) pda_nil)) (pd_and' (pd_eqS (pd_var 12) (pd_var 11)) (pd_one (pd_callG (dg_law_refuse_1 fx) (hr.mono (by decide)) tk (pda_cons (pd_var 7) pda_nil)))))))))))))))))))))))
end
/-! ### the head -/
abbrev Rw : PySem.W.OpenRow := PySem.W.OpenLaw.row PySem.Challenge.rw_certsums_k14_roots_from
abbrev hk : PySem.W.Hook := hookP 6 fas fns (fun K => bls.all fun b => b K)
def ob (s : PySem.W.SharedT) : AlP := seeP 6 fas fns (fun K => bls.all fun b => b K) (HandSHeadRun.getT s)
theorem ob_eq (s : PySem.W.SharedT) : ob s = hk.obs s.abs := seeP_eq (HandSHeadRun.getT_eq s)
theorem run (w : World) : HandSHeadRun.RunEqI Rw (PySem.W.view Rw.prog [0, 25]) hk ob 20000 ["_wall", "__name__", "SummationError", "DivisionByZero", "ZeroPolynomial", "is_settled", "settled_from", "may_have_root", "roots_between", "roots_from", "free_from", "Fraction", "trimmed", "content", "Poly", "_law_numbers", "_law_is_integer", "_law_product", "_law_sorted_roots", "_law_refuse"] w := by
  unfold HandSHeadRun.RunEqI
  kernel_rfl
end G

set_option maxHeartbeats 4000000
/-! printed by qv.py: typed functions, their conditions, and what the plain functions give -/
namespace G
open PySem PySem.Spec L2 Pd
theorem r_law_numbers_2 {j3 : Option Cel} {j4 : Option Cel} {j5 : Option Cel} {j6 : Option Cel} (script' : List Int) (count' : Int) (rest' : Int) (h : v_law_numbers_2 script' count' rest') : NxOk (b_law_numbers_0 [cD (qL qI script'), cD (qI count'), cD (qI rest'), j3, j4, j5, j6]) (fun (s : Int) w => ∃ (j3 : Option Cel) (j4 : Option Cel) (j5 : Option Cel) (j6 : Option Cel), w = [cD (qL qI script'), cD (qI count'), cD (qI s), j3, j4, j5, j6]) (q_law_numbers_2 script' count' rest') :=
  nx_st (ρ' := [cD (qL qI script'), cD (qI count'), cD (qI (gt script' (0 : Int))), _, _, _, _]) (st_set (ev_e2 ev_fro ev_c (g_ix (k := .fro) (e := qI) h)) rfl rfl) ⟨_, _, _, _, rfl⟩
theorem r_law_numbers_9 {j1 : Option Cel} {j5 : Option Cel} {j6 : Option Cel} (script' : List Int) (rest' : Int) (by_digits' : Bool) (numbers_here' : List Int) : NxOk (b_law_numbers_1 [cD (qL qI script'), j1, cD (qI rest'), cD (qB by_digits'), cO (numbers_here'.map qI), j5, j6]) (fun (s : Int × (List Int)) w => ∃ (j1 : Option Cel) (j5 : Option Cel) (j6 : Option Cel), w = [cD (qL qI script'), j1, cD (qI s.1), cD (qB by_digits'), cO (s.2.map qI), j5, j6]) (q_law_numbers_9 script' rest' by_digits' numbers_here') :=
  nx_st (ρ' := [cD (qL qI script'), _, cD (qI (Int.fdiv rest' (1000000 : Int))), cD (qB by_digits'), cO (numbers_here'.map qI), _, _]) (st_set (ev_e2 ev_fro ev_c (g_div (by decide))) rfl rfl) ⟨_, _, _, rfl⟩
theorem r_law_numbers_8 {j1 : Option Cel} {j5 : Option Cel} {j6 : Option Cel} (script' : List Int) (rest' : Int) (by_digits' : Bool) (numbers_here' : List Int) (h : v_law_numbers_8 script' rest' by_digits' numbers_here') : NxOk (b_law_numbers_2 [cD (qL qI script'), j1, cD (qI rest'), cD (qB by_digits'), cO (numbers_here'.map qI), j5, j6]) (fun (s : Int × (List Int)) w => ∃ (j1 : Option Cel) (j5 : Option Cel) (j6 : Option Cel), w = [cD (qL qI script'), j1, cD (qI s.1), cD (qB by_digits'), cO (s.2.map qI), j5, j6]) (q_law_numbers_8 script' rest' by_digits' numbers_here') :=
  NxOk.of (sq_nx (ρ' := [cD (qL qI script'), _, cD (qI rest'), cD (qB by_digits'), cO ((numbers_here' ++ [(Int.fmod rest' (1000000 : Int))]).map qI), _, _]) (st_appT (e := qI) rfl (ev_e2 ev_fro ev_c (g_mod (by decide))) rfl h rfl)) (r_law_numbers_9 script' rest' by_digits' (numbers_here' ++ [(Int.fmod rest' (1000000 : Int))]))
theorem r_law_numbers_12 {j1 : Option Cel} (script' : List Int) (rest' : Int) (by_digits' : Bool) (numbers_here' : List Int) (k' : Int) (cell' : Int) (h : v_law_numbers_12 script' rest' by_digits' numbers_here' k' cell') : NxOk (b_law_numbers_3 [cD (qL qI script'), j1, cD (qI rest'), cD (qB by_digits'), cO (numbers_here'.map qI), cD (qI k'), cD (qI cell')]) (fun (s : Int) w => ∃ (j1 : Option Cel) (j5 : Option Cel), w = [cD (qL qI script'), j1, cD (qI rest'), cD (qB by_digits'), cO (numbers_here'.map qI), j5, cD (qI s)]) (q_law_numbers_12 script' rest' by_digits' numbers_here' k' cell') :=
  nx_st (ρ' := [cD (qL qI script'), _, cD (qI rest'), cD (qB by_digits'), cO (numbers_here'.map qI), cD (qI k'), cD (qI ((gt script' (Int.fmod k' (script'.length : Int))) + ((7919 : Int) * k')))]) (st_set (ev_e2 (ev_e2 ev_fro (ev_e2 ev_fro (ev_e1 ev_fro (g_len (k := .fro))) (g_mod h.1)) (g_ix (k := .fro) (e := qI) h.2.1)) (ev_e2 ev_c ev_fro (g_mul h.2.2)) rfl) rfl rfl) ⟨_, _, rfl⟩
theorem r_law_numbers_14 {j1 : Option Cel} {j5 : Option Cel} (script' : List Int) (rest' : Int) (by_digits' : Bool) (numbers_here' : List Int) (cell' : Int) (h : v_law_numbers_14 script' rest' by_digits' numbers_here' cell') : NxOk (b_law_numbers_4 [cD (qL qI script'), j1, cD (qI rest'), cD (qB by_digits'), cO (numbers_here'.map qI), j5, cD (qI cell')]) (fun (s : Int × (List Int)) w => ∃ (j1 : Option Cel) (j5 : Option Cel) (j6 : Option Cel), w = [cD (qL qI script'), j1, cD (qI s.1), cD (qB by_digits'), cO (s.2.map qI), j5, j6]) (q_law_numbers_14 script' rest' by_digits' numbers_here' cell') :=
  nx_st (ρ' := [cD (qL qI script'), _, cD (qI rest'), cD (qB by_digits'), cO ((numbers_here' ++ [(Int.fmod (Int.fmod ((Int.fmod (cell' * (48271 : Int)) (2147483647 : Int)) * (69621 : Int)) (2147483629 : Int)) (1000000 : Int))]).map qI), _, cD (qI cell')]) (st_appT (e := qI) rfl (ev_e2 (ev_e2 (ev_e2 (ev_e2 (ev_e2 ev_fro ev_c (g_mul h.1)) ev_c (g_mod (by decide))) ev_c (g_mul h.2.1)) ev_c (g_mod (by decide))) ev_c (g_mod (by decide))) rfl h.2.2 rfl) ⟨_, _, _, rfl⟩
theorem r_law_numbers_11 {j1 : Option Cel} (script' : List Int) (rest' : Int) (by_digits' : Bool) (numbers_here' : List Int) (k' : Int) (cell' : Int) (h : v_law_numbers_11 script' rest' by_digits' numbers_here' k' cell') : NxOk (b_law_numbers_5 [cD (qL qI script'), j1, cD (qI rest'), cD (qB by_digits'), cO (numbers_here'.map qI), cD (qI k'), cD (qI cell')]) (fun (s : Int × (List Int)) w => ∃ (j1 : Option Cel) (j5 : Option Cel) (j6 : Option Cel), w = [cD (qL qI script'), j1, cD (qI s.1), cD (qB by_digits'), cO (s.2.map qI), j5, j6]) (q_law_numbers_11 script' rest' by_digits' numbers_here' k' cell') :=
  sq_NN (E := (fun (s : Int) w => ∃ (j1 : Option Cel) (j5 : Option Cel), w = [cD (qL qI script'), j1, cD (qI rest'), cD (qB by_digits'), cO (numbers_here'.map qI), j5, cD (qI s)])) (q := q_law_numbers_13 script' rest' by_digits' numbers_here' k' cell') (nx_if (tv_b (ev_e2 (ev_e1 ev_fro (g_len (k := .fro))) ev_c rfl)) (fun hb4 => r_law_numbers_12 script' rest' by_digits' numbers_here' k' cell' (h.1 hb4)) (fun hb4 => nx_next ⟨_, _, rfl⟩)) (fun w hw => by obtain ⟨_, _, rfl⟩ := hw; exact r_law_numbers_14 script' rest' by_digits' numbers_here' (q_law_numbers_13 script' rest' by_digits' numbers_here' k' cell') h.2)
theorem r_law_numbers_10 {j1 : Option Cel} {j6 : Option Cel} (script' : List Int) (rest' : Int) (by_digits' : Bool) (numbers_here' : List Int) (k' : Int) (h : v_law_numbers_10 script' rest' by_digits' numbers_here' k') : NxOk (b_law_numbers_6 [cD (qL qI script'), j1, cD (qI rest'), cD (qB by_digits'), cO (numbers_here'.map qI), cD (qI k'), j6]) (fun (s : Int × (List Int)) w => ∃ (j1 : Option Cel) (j5 : Option Cel) (j6 : Option Cel), w = [cD (qL qI script'), j1, cD (qI s.1), cD (qB by_digits'), cO (s.2.map qI), j5, j6]) (q_law_numbers_10 script' rest' by_digits' numbers_here' k') :=
  NxOk.of (sq_nx (ρ' := [cD (qL qI script'), _, cD (qI rest'), cD (qB by_digits'), cO (numbers_here'.map qI), cD (qI k'), cD (qI (13 : Int))]) (st_set ev_c rfl rfl)) (r_law_numbers_11 script' rest' by_digits' numbers_here' k' (13 : Int) h)
theorem r_law_numbers_7 {j1 : Option Cel} {j6 : Option Cel} (script' : List Int) (rest' : Int) (by_digits' : Bool) (numbers_here' : List Int) (k' : Int) (h : v_law_numbers_7 script' rest' by_digits' numbers_here' k') : NxOk (b_law_numbers_7 [cD (qL qI script'), j1, cD (qI rest'), cD (qB by_digits'), cO (numbers_here'.map qI), cD (qI k'), j6]) (fun (s : Int × (List Int)) w => ∃ (j1 : Option Cel) (j5 : Option Cel) (j6 : Option Cel), w = [cD (qL qI script'), j1, cD (qI s.1), cD (qB by_digits'), cO (s.2.map qI), j5, j6]) (q_law_numbers_7 script' rest' by_digits' numbers_here' k') :=
  nx_if (tv_and (tv_tru ev_fro rfl) (fun hb2 => tv_b (ev_e2 ev_fro ev_c rfl))) (fun hb3 => r_law_numbers_8 script' rest' by_digits' numbers_here' (h.1 hb3)) (fun hb3 => r_law_numbers_10 script' rest' by_digits' numbers_here' k' (h.2 hb3))
theorem r_law_numbers_16 {j0 : Option Cel} {j1 : Option Cel} {j2 : Option Cel} {j3 : Option Cel} {j5 : Option Cel} {j6 : Option Cel} (numbers_here' : List Int) : RtOk (b_law_numbers_8 [j0, j1, j2, j3, cO (numbers_here'.map qI), j5, j6]) (fun r x => x = .own (r.map qI)) (q_law_numbers_16 numbers_here') :=
  rt_retO rfl rfl
theorem r_law_numbers_6 {j5 : Option Cel} {j6 : Option Cel} (script' : List Int) (count' : Int) (rest' : Int) (by_digits' : Bool) (numbers_here' : List Int) (h : v_law_numbers_6 script' count' rest' by_digits' numbers_here') : RtOk (b_law_numbers_9 [cD (qL qI script'), cD (qI count'), cD (qI rest'), cD (qB by_digits'), cO (numbers_here'.map qI), j5, j6]) (fun r x => x = .own (r.map qI)) (q_law_numbers_6 script' count' rest' by_digits' numbers_here') :=
  sq_NR (E := (fun (s : Int × (List Int)) w => ∃ (j1 : Option Cel) (j5 : Option Cel) (j6 : Option Cel), w = [cD (qL qI script'), j1, cD (qI s.1), cD (qB by_digits'), cO (s.2.map qI), j5, j6])) (q := q_law_numbers_15 script' count' rest' by_digits' numbers_here') (NxOk.of (sfor_eq (iv_r1 ev_fro h.1)) (for_N (E := (fun (s : Int × (List Int)) w => ∃ (j1 : Option Cel) (j5 : Option Cel) (j6 : Option Cel), w = [cD (qL qI script'), j1, cD (qI s.1), cD (qB by_digits'), cO (s.2.map qI), j5, j6])) (V := fun (s5 : Int × (List Int)) (x6 : Int) => v_law_numbers_7 script' s5.1 by_digits' s5.2 x6) (f := fun (s5 : Int × (List Int)) (x6 : Int) => q_law_numbers_7 script' s5.1 by_digits' s5.2 x6) (e := qI) (fun s5 x6 ρ hρ hv7 => by obtain ⟨_, _, _, rfl⟩ := hρ; exact ⟨_, rfl, r_law_numbers_7 script' s5.1 by_digits' s5.2 x6 hv7⟩) (rngT 0 count') (rest', numbers_here') _ ⟨_, _, _, rfl⟩ h.2)) (fun w hw => by obtain ⟨_, _, _, rfl⟩ := hw; exact r_law_numbers_16 ((q_law_numbers_15 script' count' rest' by_digits' numbers_here').2))
theorem r_law_numbers_5 {j4 : Option Cel} {j5 : Option Cel} {j6 : Option Cel} (script' : List Int) (count' : Int) (rest' : Int) (by_digits' : Bool) (h : v_law_numbers_5 script' count' rest' by_digits') : RtOk (b_law_numbers_10 [cD (qL qI script'), cD (qI count'), cD (qI rest'), cD (qB by_digits'), j4, j5, j6]) (fun r x => x = .own (r.map qI)) (q_law_numbers_5 script' count' rest' by_digits') :=
  RtOk.of (sq_nx (ρ' := [cD (qL qI script'), cD (qI count'), cD (qI rest'), cD (qB by_digits'), cO (([] : List Int).map qI), _, _]) (st_set (ev_lst av_nil) rfl rfl)) (r_law_numbers_6 script' count' rest' by_digits' ([] : List Int) h)
theorem r_law_numbers_4 {j3 : Option Cel} {j4 : Option Cel} {j5 : Option Cel} {j6 : Option Cel} (script' : List Int) (count' : Int) (rest' : Int) (h : v_law_numbers_4 script' count' rest') : RtOk (b_law_numbers_11 [cD (qL qI script'), cD (qI count'), cD (qI rest'), j3, j4, j5, j6]) (fun r x => x = .own (r.map qI)) (q_law_numbers_4 script' count' rest') :=
  RtOk.of (sq_nx (ρ' := [cD (qL qI script'), cD (qI count'), cD (qI rest'), cD (qB (decide (rest' ≥ (1000000000000000000 : Int)))), _, _, _]) (st_set (ev_e2 ev_fro (ev_e2 ev_c ev_c (g_powl (k := 1000000000000000000) (by decide) (by decide +kernel))) rfl) rfl rfl)) (r_law_numbers_5 script' count' rest' (decide (rest' ≥ (1000000000000000000 : Int))) h)
theorem r_law_numbers_1 {j3 : Option Cel} {j4 : Option Cel} {j5 : Option Cel} {j6 : Option Cel} (script' : List Int) (count' : Int) (rest' : Int) (h : v_law_numbers_1 script' count' rest') : RtOk (b_law_numbers_12 [cD (qL qI script'), cD (qI count'), cD (qI rest'), j3, j4, j5, j6]) (fun r x => x = .own (r.map qI)) (q_law_numbers_1 script' count' rest') :=
  sq_NR (E := (fun (s : Int) w => ∃ (j3 : Option Cel) (j4 : Option Cel) (j5 : Option Cel) (j6 : Option Cel), w = [cD (qL qI script'), cD (qI count'), cD (qI s), j3, j4, j5, j6])) (q := q_law_numbers_3 script' count' rest') (nx_if (tv_b (ev_e2 (ev_e1 ev_fro (g_len (k := .fro))) ev_c rfl)) (fun hb1 => r_law_numbers_2 script' count' rest' (h.1 hb1)) (fun hb1 => nx_next ⟨_, _, _, _, rfl⟩)) (fun w hw => by obtain ⟨_, _, _, _, rfl⟩ := hw; exact r_law_numbers_4 script' count' (q_law_numbers_3 script' count' rest') h.2)
theorem r_law_numbers_0 {j2 : Option Cel} {j3 : Option Cel} {j4 : Option Cel} {j5 : Option Cel} {j6 : Option Cel} (script' : List Int) (count' : Int) (h : v_law_numbers_0 script' count') : RtOk (b_law_numbers_13 [cD (qL qI script'), cD (qI count'), j2, j3, j4, j5, j6]) (fun r x => x = .own (r.map qI)) (q_law_numbers_0 script' count') :=
  RtOk.of (sq_nx (ρ' := [cD (qL qI script'), cD (qI count'), cD (qI (0 : Int)), _, _, _, _]) (st_set ev_c rfl rfl)) (r_law_numbers_1 script' count' (0 : Int) h)
theorem r_law_numbers (script' : List Int) (count' : Int) (h : v_law_numbers script' count') : f_law_numbers [qL qI script', qI count'] = some (.ok (.own ((q_law_numbers script' count').map qI))) :=
  fn_O (r_law_numbers_0 script' count' h)
theorem r_law_product_3 {j3 : Option Cel} (a' : List Int) (b' : List Int) (result' : List Int) (i' : Int) (j' : Int) (h : v_law_product_3 a' b' result' i' j') : NxOk (b_law_product_0 [cD (qL qI a'), cD (qL qI b'), cO (result'.map qI), j3, cD (qI i'), cD (qI j')]) (fun (s : (List Int)) w => ∃ (j3 : Option Cel) (j5 : Option Cel), w = [cD (qL qI a'), cD (qL qI b'), cO (s.map qI), j3, cD (qI i'), j5]) (q_law_product_3 a' b' result' i' j') :=
  nx_st (ρ' := [cD (qL qI a'), cD (qL qI b'), cO ((setT result' (i' + j') ((gt result' (i' + j')) + ((gt a' i') * (gt b' j')))).map qI), _, cD (qI i'), cD (qI j')]) (st_ix (e := qI) rfl (ev_e2 (ev_e2 ev_own (ev_e2 ev_fro ev_fro rfl) (g_ix (k := .bor) (e := qI) h.1)) (ev_e2 (ev_e2 ev_fro ev_fro (g_ix (k := .fro) (e := qI) h.2.1)) (ev_e2 ev_fro ev_fro (g_ix (k := .fro) (e := qI) h.2.2.1)) (g_mul h.2.2.2.1)) rfl) rfl (ev_e2 ev_fro ev_fro rfl) h.2.2.2.2 rfl) ⟨_, _, rfl⟩
theorem r_law_product_2 {j3 : Option Cel} {j5 : Option Cel} (a' : List Int) (b' : List Int) (result' : List Int) (i' : Int) (h : v_law_product_2 a' b' result' i') : NxOk (b_law_product_1 [cD (qL qI a'), cD (qL qI b'), cO (result'.map qI), j3, cD (qI i'), j5]) (fun (s : (List Int)) w => ∃ (j3 : Option Cel) (j4 : Option Cel) (j5 : Option Cel), w = [cD (qL qI a'), cD (qL qI b'), cO (s.map qI), j3, j4, j5]) (q_law_product_2 a' b' result' i') :=
  NxOk.map (NxOk.of (sfor_eq (iv_r1 (ev_e1 ev_fro (g_len (k := .fro))) h.1)) (for_N (E := (fun (s : (List Int)) w => ∃ (j3 : Option Cel) (j5 : Option Cel), w = [cD (qL qI a'), cD (qL qI b'), cO (s.map qI), j3, cD (qI i'), j5])) (V := fun (s3 : (List Int)) (x4 : Int) => v_law_product_3 a' b' s3 i' x4) (f := fun (s3 : (List Int)) (x4 : Int) => q_law_product_3 a' b' s3 i' x4) (e := qI) (fun s3 x4 ρ hρ hv5 => by obtain ⟨_, _, rfl⟩ := hρ; exact ⟨_, rfl, r_law_product_3 a' b' s3 i' x4 hv5⟩) (rngT 0 (b'.length : Int)) result' _ ⟨_, _, rfl⟩ h.2)) (f := fun s6 => s6) (fun s w hw => by obtain ⟨_, _, rfl⟩ := hw; exact ⟨_, _, _, rfl⟩)
theorem r_law_product_5 {j0 : Option Cel} {j1 : Option Cel} {j3 : Option Cel} {j4 : Option Cel} {j5 : Option Cel} (result' : List Int) : RtOk (b_law_product_2 [j0, j1, cO (result'.map qI), j3, j4, j5]) (fun r x => x = .own (r.map qI)) (q_law_product_5 result') :=
  rt_retO rfl rfl
theorem r_law_product_1 {j3 : Option Cel} {j4 : Option Cel} {j5 : Option Cel} (a' : List Int) (b' : List Int) (result' : List Int) (h : v_law_product_1 a' b' result') : RtOk (b_law_product_3 [cD (qL qI a'), cD (qL qI b'), cO (result'.map qI), j3, j4, j5]) (fun r x => x = .own (r.map qI)) (q_law_product_1 a' b' result') :=
  sq_NR (E := (fun (s : (List Int)) w => ∃ (j3 : Option Cel) (j4 : Option Cel) (j5 : Option Cel), w = [cD (qL qI a'), cD (qL qI b'), cO (s.map qI), j3, j4, j5])) (q := q_law_product_4 a' b' result') (NxOk.of (sfor_eq (iv_r1 (ev_e1 ev_fro (g_len (k := .fro))) h.1)) (for_N (E := (fun (s : (List Int)) w => ∃ (j3 : Option Cel) (j4 : Option Cel) (j5 : Option Cel), w = [cD (qL qI a'), cD (qL qI b'), cO (s.map qI), j3, j4, j5])) (V := fun (s7 : (List Int)) (x8 : Int) => v_law_product_2 a' b' s7 x8) (f := fun (s7 : (List Int)) (x8 : Int) => q_law_product_2 a' b' s7 x8) (e := qI) (fun s7 x8 ρ hρ hv9 => by obtain ⟨_, _, _, rfl⟩ := hρ; exact ⟨_, rfl, r_law_product_2 a' b' s7 x8 hv9⟩) (rngT 0 (a'.length : Int)) result' _ ⟨_, _, _, rfl⟩ h.2)) (fun w hw => by obtain ⟨_, _, _, rfl⟩ := hw; exact r_law_product_5 (q_law_product_4 a' b' result'))
theorem r_law_product_0 {j2 : Option Cel} {j3 : Option Cel} {j4 : Option Cel} {j5 : Option Cel} (a' : List Int) (b' : List Int) (h : v_law_product_0 a' b') : RtOk (b_law_product_4 [cD (qL qI a'), cD (qL qI b'), j2, j3, j4, j5]) (fun r x => x = .own (r.map qI)) (q_law_product_0 a' b') :=
  RtOk.of (sq_nx (ρ' := [cD (qL qI a'), cD (qL qI b'), cO (((rngT 0 ((a'.length : Int) + (b'.length : Int))).map fun (x1 : Int) => (0 : Int)).map qI), _, _, _]) (st_set (ev_lc (e := qI) (e' := qI) (F := fun (x1 : Int) => (0 : Int)) (xs := rngT 0 ((a'.length : Int) + (b'.length : Int))) (iv_r1 (ev_e2 (ev_e1 ev_fro (g_len (k := .fro))) (ev_e1 ev_fro (g_len (k := .fro))) rfl) h.1) h.2.1 (fun x1 hx2 => ⟨[cD (qL qI a'), cD (qL qI b'), _, cD (qI x1), _, _], _, rfl, ev_c, rfl⟩)) rfl rfl)) (r_law_product_1 a' b' ((rngT 0 ((a'.length : Int) + (b'.length : Int))).map fun (x1 : Int) => (0 : Int)) h.2.2)
theorem r_law_product (a' : List Int) (b' : List Int) (h : v_law_product a' b') : f_law_product [qL qI a', qL qI b'] = some (.ok (.own ((q_law_product a' b').map qI))) :=
  fn_O (r_law_product_0 a' b' h)
theorem r_trimmed_2 (numbers' : List Int) (size' : Int) : NxOk (b_trimmed_0 [cD (qL qI numbers'), cD (qI size')]) (fun (s : Int) w => w = [cD (qL qI numbers'), cD (qI s)]) (q_trimmed_2 numbers' size') :=
  nx_st (ρ' := [cD (qL qI numbers'), cD (qI (size' - (1 : Int)))]) (st_aug rfl ev_c rfl rfl rfl) rfl
theorem r_trimmed_4 (numbers' : List Int) (size' : Int) : RtOk (b_trimmed_1 [cD (qL qI numbers'), cD (qI size')]) (fun r x => x = .own (r.map qI)) (q_trimmed_4 numbers' size') :=
  rt_ret (ev_sl (k := .fro) ev_fro ov_none (ov_some ev_fro)) rfl (by simp)
theorem r_trimmed_1 (numbers' : List Int) (size' : Int) (h : v_trimmed_1 numbers' size') : RtOk (b_trimmed_2 [cD (qL qI numbers'), cD (qI size')]) (fun r x => x = .own (r.map qI)) (q_trimmed_1 numbers' size') :=
  sq_NR (E := (fun (s : Int) w => w = [cD (qL qI numbers'), cD (qI s)])) (q := q_trimmed_3 numbers' size') (while_N (E := (fun (s : Int) w => w = [cD (qL qI numbers'), cD (qI s)])) (t' := fun (s1 : Int) => ((decide (s1 > (0 : Int))) && (decide ((gt numbers' (s1 - (1 : Int))) = (0 : Int))))) (Vt := fun (s1 : Int) => ((decide (s1 > (0 : Int))) = true → inR numbers' (s1 - (1 : Int)))) (f := fun (s1 : Int) => q_trimmed_2 numbers' s1) (V := fun (s1 : Int) => True) (fun s1 ρ hρ hv2 => by obtain rfl := hρ; exact tv_and (tv_b (ev_e2 ev_fro ev_c rfl)) (fun hb3 => tv_b (ev_e2 (ev_e2 ev_fro (ev_e2 ev_fro ev_c rfl) (g_ix (k := .fro) (e := qI) (hv2 hb3))) ev_c g_eqI))) (fun s1 ρ hρ hv2 _ => by obtain rfl := hρ; exact r_trimmed_2 numbers' s1) rfl h) (fun w hw => by obtain rfl := hw; exact r_trimmed_4 numbers' (q_trimmed_3 numbers' size'))
theorem r_trimmed_0 {j1 : Option Cel} (numbers' : List Int) (h : v_trimmed_0 numbers') : RtOk (b_trimmed_3 [cD (qL qI numbers'), j1]) (fun r x => x = .own (r.map qI)) (q_trimmed_0 numbers') :=
  RtOk.of (sq_nx (ρ' := [cD (qL qI numbers'), cD (qI (numbers'.length : Int))]) (st_set (ev_e1 ev_fro (g_len (k := .fro))) rfl rfl)) (r_trimmed_1 numbers' (numbers'.length : Int) h)
theorem r_trimmed (numbers' : List Int) (h : v_trimmed numbers') : f_trimmed [qL qI numbers'] = some (.ok (.own ((q_trimmed numbers').map qI))) :=
  fn_O (r_trimmed_0 numbers' h)
theorem r_content_2 {j0 : Option Cel} (divisor' : Int) (number' : Int) : NxOk (b_content_0 [j0, cD (qI divisor'), cD (qI number')]) (fun (s : Int) w => ∃ (j0 : Option Cel) (j2 : Option Cel), w = [j0, cD (qI s), j2]) (q_content_2 divisor' number') :=
  nx_st (ρ' := [_, cD (qI (Int.gcd divisor' number' : Int)), cD (qI number')]) (st_set (ev_e2 ev_fro ev_fro g_gcd) rfl rfl) ⟨_, _, rfl⟩
theorem r_content_4 {j0 : Option Cel} {j2 : Option Cel} (divisor' : Int) : RtOk (b_content_1 [j0, cD (qI divisor'), j2]) (fun r x => x = .fro (qI r)) (q_content_4 divisor') :=
  rt_retF rfl rfl
theorem r_content_1 {j2 : Option Cel} (numbers' : List Int) (divisor' : Int) : RtOk (b_content_2 [cD (qL qI numbers'), cD (qI divisor'), j2]) (fun r x => x = .fro (qI r)) (q_content_1 numbers' divisor') :=
  sq_NR (E := (fun (s : Int) w => ∃ (j0 : Option Cel) (j2 : Option Cel), w = [j0, cD (qI s), j2])) (q := q_content_3 numbers' divisor') (NxOk.of (sfor_eq (iv_k (k := .fro) ev_fro (by simp))) (for_N (E := (fun (s : Int) w => ∃ (j0 : Option Cel) (j2 : Option Cel), w = [j0, cD (qI s), j2])) (V := fun _ _ => True) (f := fun (s1 : Int) (x2 : Int) => q_content_2 s1 x2) (e := qI) (fun s1 x2 ρ hρ hv3 => by obtain ⟨_, _, rfl⟩ := hρ; exact ⟨_, rfl, r_content_2 s1 x2⟩) numbers' divisor' _ ⟨_, _, rfl⟩ (forV_true _ _))) (fun w hw => by obtain ⟨_, _, rfl⟩ := hw; exact r_content_4 (q_content_3 numbers' divisor'))
theorem r_content_0 {j1 : Option Cel} {j2 : Option Cel} (numbers' : List Int) : RtOk (b_content_3 [cD (qL qI numbers'), j1, j2]) (fun r x => x = .fro (qI r)) (q_content_0 numbers') :=
  RtOk.of (sq_nx (ρ' := [cD (qL qI numbers'), cD (qI (0 : Int)), _]) (st_set ev_c rfl rfl)) (r_content_1 numbers' (0 : Int))
theorem r_content (numbers' : List Int) : f_content [qL qI numbers'] = some (.ok (.fro (qI (q_content numbers')))) :=
  fn_F (e := qI) (r_content_0 numbers')
theorem r_Poly_init_4 {j1 : Option Cel} {j5 : Option Cel} (den' : Int) (numbers' : List Int) (divisor' : Int) : NxOk (b_Poly_init_1 [some (.mk 21 []), j1, cD (qI den'), cO (numbers'.map qI), cD (qI divisor'), j5]) (fun (s : Int) w => ∃ (j1 : Option Cel) (j5 : Option Cel), w = [some (.mk 21 []), j1, cD (qI den'), cO (numbers'.map qI), cD (qI s), j5]) (q_Poly_init_4 den' numbers' divisor') :=
  nx_st (ρ' := [some (.mk 21 []), _, cD (qI den'), cO (numbers'.map qI), cD (qI (-divisor')), _]) (st_set (ev_e1 ev_fro rfl) rfl rfl) ⟨_, _, rfl⟩
theorem r_Poly_init_7 {j1 : Option Cel} {j3 : Option Cel} {j5 : Option Cel} (den' : Int) (divisor' : Int) (sf_coefs : List Int) (h : v_Poly_init_7 den' divisor' sf_coefs) : NxOk (b_Poly_init_2 [some (.mk 21 [qV qI sf_coefs]), j1, cD (qI den'), j3, cD (qI divisor'), j5]) (fun (s : (List Int) × Int) w => ∃ (j1 : Option Cel) (j2 : Option Cel) (j3 : Option Cel) (j4 : Option Cel) (j5 : Option Cel), w = [some (.mk 21 [qV qI s.1, qI s.2]), j1, j2, j3, j4, j5]) (q_Poly_init_7 den' divisor' sf_coefs) :=
  nx_st (ρ' := [some (.mk 21 [qV qI sf_coefs, qI (Int.fdiv den' divisor')]), _, cD (qI den'), _, cD (qI divisor'), _]) (st_fld rfl (ev_e2 ev_fro ev_fro (g_div h)) rfl rfl rfl) ⟨_, _, _, _, _, rfl⟩
theorem r_Poly_init_6 {j1 : Option Cel} {j5 : Option Cel} (den' : Int) (numbers' : List Int) (divisor' : Int) (h : v_Poly_init_6 den' numbers' divisor') : NxOk (b_Poly_init_3 [some (.mk 21 []), j1, cD (qI den'), cO (numbers'.map qI), cD (qI divisor'), j5]) (fun (s : (List Int) × Int) w => ∃ (j1 : Option Cel) (j2 : Option Cel) (j3 : Option Cel) (j4 : Option Cel) (j5 : Option Cel), w = [some (.mk 21 [qV qI s.1, qI s.2]), j1, j2, j3, j4, j5]) (q_Poly_init_6 den' numbers' divisor') :=
  NxOk.of (sq_nx (ρ' := [some (.mk 21 [qV qI (numbers'.map fun (x3 : Int) => (Int.fdiv x3 divisor'))]), _, cD (qI den'), cO (numbers'.map qI), cD (qI divisor'), _]) (st_fld rfl (ev_bor (ρ' := [some (.mk 21 []), _, cD (qI den'), cD (qL qI numbers'), cD (qI divisor'), _]) rfl rfl (ev_e1 (ev_lc (e := qI) (e' := qI) (F := fun (x3 : Int) => (Int.fdiv x3 divisor')) (xs := numbers') (iv_k (k := .fro) ev_fro (by simp)) h.2.1 (fun x3 hx4 => ⟨[some (.mk 21 []), _, cD (qI den'), cD (qL qI numbers'), cD (qI divisor'), cD (qI x3)], _, rfl, ev_e2 ev_fro ev_fro (g_div (h.1 x3 hx4)), rfl⟩)) (g_tuple (k := .own))) (nl_fro (e := qV qI) _)) rfl rfl rfl)) (r_Poly_init_7 den' divisor' (numbers'.map fun (x3 : Int) => (Int.fdiv x3 divisor')) h.2.2)
theorem r_Poly_init_3 {j1 : Option Cel} {j5 : Option Cel} (den' : Int) (numbers' : List Int) (divisor' : Int) (h : v_Poly_init_3 den' numbers' divisor') : NxOk (b_Poly_init_4 [some (.mk 21 []), j1, cD (qI den'), cO (numbers'.map qI), cD (qI divisor'), j5]) (fun (s : (List Int) × Int) w => ∃ (j1 : Option Cel) (j2 : Option Cel) (j3 : Option Cel) (j4 : Option Cel) (j5 : Option Cel), w = [some (.mk 21 [qV qI s.1, qI s.2]), j1, j2, j3, j4, j5]) (q_Poly_init_3 den' numbers' divisor') :=
  sq_NN (E := (fun (s : Int) w => ∃ (j1 : Option Cel) (j5 : Option Cel), w = [some (.mk 21 []), j1, cD (qI den'), cO (numbers'.map qI), cD (qI s), j5])) (q := q_Poly_init_5 den' numbers' divisor') (nx_if (tv_b (ev_e2 ev_fro ev_c rfl)) (fun hb2 => r_Poly_init_4 den' numbers' divisor') (fun hb2 => nx_next ⟨_, _, rfl⟩)) (fun w hw => by obtain ⟨_, _, rfl⟩ := hw; exact r_Poly_init_6 den' numbers' (q_Poly_init_5 den' numbers' divisor') h)
theorem r_Poly_init_2 {j1 : Option Cel} {j4 : Option Cel} {j5 : Option Cel} (den' : Int) (numbers' : List Int) (h : v_Poly_init_2 den' numbers') : NxOk (b_Poly_init_5 [some (.mk 21 []), j1, cD (qI den'), cO (numbers'.map qI), j4, j5]) (fun (s : (List Int) × Int) w => ∃ (j1 : Option Cel) (j2 : Option Cel) (j3 : Option Cel) (j4 : Option Cel) (j5 : Option Cel), w = [some (.mk 21 [qV qI s.1, qI s.2]), j1, j2, j3, j4, j5]) (q_Poly_init_2 den' numbers') :=
  NxOk.of (sq_nx (ρ' := [some (.mk 21 []), _, cD (qI den'), cO (numbers'.map qI), cD (qI (Int.gcd (q_content numbers') den' : Int)), _]) (st_set (ev_bor (ρ' := [some (.mk 21 []), _, cD (qI den'), cD (qL qI numbers'), _, _]) rfl rfl (ev_e2 (ev_call (r_content numbers') (av_cons ev_fro rfl av_nil)) ev_fro g_gcd) (nl_fro (e := qI) _)) rfl rfl)) (r_Poly_init_3 den' numbers' (Int.gcd (q_content numbers') den' : Int) h)
theorem r_Poly_init_1 {j3 : Option Cel} {j4 : Option Cel} {j5 : Option Cel} (coefs' : List Int) (den' : Int) (h : v_Poly_init_1 coefs' den') : NxOk (b_Poly_init_6 [some (.mk 21 []), cD (qL qI coefs'), cD (qI den'), j3, j4, j5]) (fun (s : (List Int) × Int) w => ∃ (j1 : Option Cel) (j2 : Option Cel) (j3 : Option Cel) (j4 : Option Cel) (j5 : Option Cel), w = [some (.mk 21 [qV qI s.1, qI s.2]), j1, j2, j3, j4, j5]) (q_Poly_init_1 coefs' den') :=
  NxOk.of (sq_nx (ρ' := [some (.mk 21 []), cD (qL qI coefs'), cD (qI den'), cO ((q_trimmed coefs').map qI), _, _]) (st_set (ev_call (r_trimmed coefs' h.1) (av_cons (ev_e1 ev_fro (g_list (k := .fro))) rfl av_nil)) rfl rfl)) (r_Poly_init_2 den' (q_trimmed coefs') h.2)
theorem r_Poly_init_0 {j3 : Option Cel} {j4 : Option Cel} {j5 : Option Cel} (coefs' : List Int) (den' : Int) (h : v_Poly_init_0 coefs' den') : NxOk (b_Poly_init_7 [some (.mk 21 []), cD (qL qI coefs'), cD (qI den'), j3, j4, j5]) (fun (s : (List Int) × Int) w => ∃ (j1 : Option Cel) (j2 : Option Cel) (j3 : Option Cel) (j4 : Option Cel) (j5 : Option Cel), w = [some (.mk 21 [qV qI s.1, qI s.2]), j1, j2, j3, j4, j5]) (q_Poly_init_0 coefs' den') :=
  NxOk.of (sqi_f (tv_eq (tv_b (ev_e2 ev_fro ev_c g_eqI)) h.1)) (NxOk.of (sq_nx rfl) (r_Poly_init_1 coefs' den' h.2))
theorem r_Poly_init (coefs' : List Int) (den' : Int) (h : v_Poly_init coefs' den') : m_Poly [qL qI coefs', qI den'] = some (.ok (.fro (qPo (q_Poly_init coefs' den')))) :=
  fn_I (fs := [qV qI (q_Poly_init_0 coefs' den').1, qI (q_Poly_init_0 coefs' den').2]) (r_Poly_init_0 coefs' den' h) (fun ρ hρ => by obtain ⟨_, _, _, _, _, rfl⟩ := hρ; rfl)
theorem r_law_sorted_roots_3 {j0 : Option Cel} (low' : Int) (high' : Int) (found' : List Int) (root' : Int) (h : v_law_sorted_roots_3 low' high' found' root') : NxOk (b_law_sorted_roots_0 [j0, cD (qI low'), cD (qI high'), cO (found'.map qI), cD (qI root')]) (fun (s : (List Int)) w => ∃ (j0 : Option Cel) (j4 : Option Cel), w = [j0, cD (qI low'), cD (qI high'), cO (s.map qI), j4]) (q_law_sorted_roots_3 low' high' found' root') :=
  nx_st (ρ' := [_, cD (qI low'), cD (qI high'), cO ((found' ++ [root']).map qI), cD (qI root')]) (st_appT (e := qI) rfl ev_fro rfl h rfl) ⟨_, _, rfl⟩
theorem r_law_sorted_roots_2 {j0 : Option Cel} (low' : Int) (high' : Int) (found' : List Int) (root' : Int) (h : v_law_sorted_roots_2 low' high' found' root') : NxOk (b_law_sorted_roots_1 [j0, cD (qI low'), cD (qI high'), cO (found'.map qI), cD (qI root')]) (fun (s : (List Int)) w => ∃ (j0 : Option Cel) (j4 : Option Cel), w = [j0, cD (qI low'), cD (qI high'), cO (s.map qI), j4]) (q_law_sorted_roots_2 low' high' found' root') :=
  nx_if (tv_and (tv_b (ev_chain ev_fro ev_fro rfl (fun hb1 => ev_fro) rfl)) (fun hb2 => tv_b (ev_e2 ev_fro ev_own (g_notInK (k := .bor) (e := qI))))) (fun hb3 => r_law_sorted_roots_3 low' high' found' root' (h hb3)) (fun hb3 => nx_next ⟨_, _, rfl⟩)
theorem r_law_sorted_roots_5 {j0 : Option Cel} {j1 : Option Cel} {j2 : Option Cel} {j4 : Option Cel} (found' : List Int) : RtOk (b_law_sorted_roots_2 [j0, j1, j2, cO (found'.map qI), j4]) (fun r x => x = .own (r.map qI)) (q_law_sorted_roots_5 found') :=
  rt_retO rfl rfl
theorem r_law_sorted_roots_1 {j4 : Option Cel} (roots' : List Int) (low' : Int) (high' : Int) (found' : List Int) (h : v_law_sorted_roots_1 roots' low' high' found') : RtOk (b_law_sorted_roots_3 [cD (qL qI roots'), cD (qI low'), cD (qI high'), cO (found'.map qI), j4]) (fun r x => x = .own (r.map qI)) (q_law_sorted_roots_1 roots' low' high' found') :=
  sq_NR (E := (fun (s : (List Int)) w => ∃ (j0 : Option Cel) (j4 : Option Cel), w = [j0, cD (qI low'), cD (qI high'), cO (s.map qI), j4])) (q := q_law_sorted_roots_4 roots' low' high' found') (NxOk.of (sfor_eq (iv_k (k := .own) (ev_e1 ev_fro (g_sorted (k := .fro) h.1)) (by simp))) (for_N (E := (fun (s : (List Int)) w => ∃ (j0 : Option Cel) (j4 : Option Cel), w = [j0, cD (qI low'), cD (qI high'), cO (s.map qI), j4])) (V := fun (s4 : (List Int)) (x5 : Int) => v_law_sorted_roots_2 low' high' s4 x5) (f := fun (s4 : (List Int)) (x5 : Int) => q_law_sorted_roots_2 low' high' s4 x5) (e := qI) (fun s4 x5 ρ hρ hv6 => by obtain ⟨_, _, rfl⟩ := hρ; exact ⟨_, rfl, r_law_sorted_roots_2 low' high' s4 x5 hv6⟩) (sortI roots') found' _ ⟨_, _, rfl⟩ h.2)) (fun w hw => by obtain ⟨_, _, rfl⟩ := hw; exact r_law_sorted_roots_5 (q_law_sorted_roots_4 roots' low' high' found'))
theorem r_law_sorted_roots_0 {j3 : Option Cel} {j4 : Option Cel} (roots' : List Int) (low' : Int) (high' : Int) (h : v_law_sorted_roots_0 roots' low' high') : RtOk (b_law_sorted_roots_4 [cD (qL qI roots'), cD (qI low'), cD (qI high'), j3, j4]) (fun r x => x = .own (r.map qI)) (q_law_sorted_roots_0 roots' low' high') :=
  RtOk.of (sq_nx (ρ' := [cD (qL qI roots'), cD (qI low'), cD (qI high'), cO (([] : List Int).map qI), _]) (st_set (ev_lst av_nil) rfl rfl)) (r_law_sorted_roots_1 roots' low' high' ([] : List Int) h)
theorem r_law_sorted_roots (roots' : List Int) (low' : Int) (high' : Int) (h : v_law_sorted_roots roots' low' high') : f_law_sorted_roots [qL qI roots', qI low', qI high'] = some (.ok (.own ((q_law_sorted_roots roots' low' high').map qI))) :=
  fn_O (r_law_sorted_roots_0 roots' low' high' h)
theorem r_Poly_is_zero_0 (self' : Po) : RtOk (b_Poly_is_zero_0 [cD (qPo self')]) (fun r x => x = .fro (qB r)) (q_Poly_is_zero_0 self') :=
  rt_ret (ev_e2 (ev_e1 (ev_e1 ev_fro (by first | exact g_fld rfl rfl | exact g_attF rfl rfl)) g_lenV) ev_c g_eqI) rfl (by simp)
theorem r_Poly_is_zero (self' : Po) : f_Poly_is_zero [qPo self'] = some (.ok (.fro (qB (q_Poly_is_zero self')))) :=
  fn_F (e := qB) (r_Poly_is_zero_0 self')
theorem r_Poly_shifted_3 {j3 : Option Cel} (self' : Po) (step' : Int) (numbers' : List Int) (j' : Int) (h : v_Poly_shifted_3 self' step' numbers' j') : NxOk (b_Poly_shifted_0 [cD (qPo self'), cD (qI step'), cO (numbers'.map qI), j3, cD (qI j')]) (fun (s : (List Int)) w => ∃ (j3 : Option Cel) (j4 : Option Cel), w = [cD (qPo self'), cD (qI step'), cO (s.map qI), j3, j4]) (q_Poly_shifted_3 self' step' numbers' j') :=
  nx_st (ρ' := [cD (qPo self'), cD (qI step'), cO ((setT numbers' j' ((gt numbers' j') + (step' * (gt numbers' (j' + (1 : Int)))))).map qI), _, cD (qI j')]) (st_ix (e := qI) rfl (ev_e2 (ev_e2 ev_own ev_fro (g_ix (k := .bor) (e := qI) h.1)) (ev_e2 ev_fro (ev_e2 ev_own (ev_e2 ev_fro ev_c rfl) (g_ix (k := .bor) (e := qI) h.2.1)) (g_mul h.2.2.1)) rfl) rfl ev_fro h.2.2.2 rfl) ⟨_, _, rfl⟩
theorem r_Poly_shifted_2 {j4 : Option Cel} (self' : Po) (step' : Int) (numbers' : List Int) (i' : Int) (h : v_Poly_shifted_2 self' step' numbers' i') : NxOk (b_Poly_shifted_1 [cD (qPo self'), cD (qI step'), cO (numbers'.map qI), cD (qI i'), j4]) (fun (s : (List Int)) w => ∃ (j3 : Option Cel) (j4 : Option Cel), w = [cD (qPo self'), cD (qI step'), cO (s.map qI), j3, j4]) (q_Poly_shifted_2 self' step' numbers' i') :=
  NxOk.of (sfor_eq (iv_rD (ev_e2 (ev_e1 ev_own (g_len (k := .bor))) ev_c rfl) (ev_e2 ev_fro ev_c rfl) h.1 h.2.1)) (for_N (E := (fun (s : (List Int)) w => ∃ (j3 : Option Cel) (j4 : Option Cel), w = [cD (qPo self'), cD (qI step'), cO (s.map qI), j3, j4])) (V := fun (s1 : (List Int)) (x2 : Int) => v_Poly_shifted_3 self' step' s1 x2) (f := fun (s1 : (List Int)) (x2 : Int) => q_Poly_shifted_3 self' step' s1 x2) (e := qI) (fun s1 x2 ρ hρ hv3 => by obtain ⟨_, _, rfl⟩ := hρ; exact ⟨_, rfl, r_Poly_shifted_3 self' step' s1 x2 hv3⟩) (rngDT ((numbers'.length : Int) - (2 : Int)) (i' - (1 : Int))) numbers' _ ⟨_, _, rfl⟩ h.2.2)
theorem r_Poly_shifted_5 {j1 : Option Cel} {j3 : Option Cel} {j4 : Option Cel} (self' : Po) (numbers' : List Int) (h : v_Poly_shifted_5 self' numbers') : RtOk (b_Poly_shifted_2 [cD (qPo self'), j1, cO (numbers'.map qI), j3, j4]) (fun r x => x = .fro (qPo r)) (q_Poly_shifted_5 self' numbers') :=
  rt_ret (ev_bor (ρ' := [cD (qPo self'), _, cD (qL qI numbers'), _, _]) rfl rfl (ev_call (r_Poly_init numbers' self'.den h) (av_cons ev_fro rfl (av_cons (ev_e1 ev_fro (by first | exact g_fld rfl rfl | exact g_attF rfl rfl)) rfl av_nil))) (nl_fro (e := qPo) _)) rfl (by simp)
theorem r_Poly_shifted_1 {j3 : Option Cel} {j4 : Option Cel} (self' : Po) (step' : Int) (numbers' : List Int) (h : v_Poly_shifted_1 self' step' numbers') : RtOk (b_Poly_shifted_3 [cD (qPo self'), cD (qI step'), cO (numbers'.map qI), j3, j4]) (fun r x => x = .fro (qPo r)) (q_Poly_shifted_1 self' step' numbers') :=
  sq_NR (E := (fun (s : (List Int)) w => ∃ (j3 : Option Cel) (j4 : Option Cel), w = [cD (qPo self'), cD (qI step'), cO (s.map qI), j3, j4])) (q := q_Poly_shifted_4 self' step' numbers') (NxOk.of (sfor_eq (iv_r1 (ev_e2 (ev_e1 ev_own (g_len (k := .bor))) ev_c rfl) h.1)) (for_N (E := (fun (s : (List Int)) w => ∃ (j3 : Option Cel) (j4 : Option Cel), w = [cD (qPo self'), cD (qI step'), cO (s.map qI), j3, j4])) (V := fun (s4 : (List Int)) (x5 : Int) => v_Poly_shifted_2 self' step' s4 x5) (f := fun (s4 : (List Int)) (x5 : Int) => q_Poly_shifted_2 self' step' s4 x5) (e := qI) (fun s4 x5 ρ hρ hv6 => by obtain ⟨_, _, rfl⟩ := hρ; exact ⟨_, rfl, r_Poly_shifted_2 self' step' s4 x5 hv6⟩) (rngT 0 ((numbers'.length : Int) - (1 : Int))) numbers' _ ⟨_, _, rfl⟩ h.2.1)) (fun w hw => by obtain ⟨_, _, rfl⟩ := hw; exact r_Poly_shifted_5 self' (q_Poly_shifted_4 self' step' numbers') h.2.2)
theorem r_Poly_shifted_0 {j2 : Option Cel} {j3 : Option Cel} {j4 : Option Cel} (self' : Po) (step' : Int) (h : v_Poly_shifted_0 self' step') : RtOk (b_Poly_shifted_4 [cD (qPo self'), cD (qI step'), j2, j3, j4]) (fun r x => x = .fro (qPo r)) (q_Poly_shifted_0 self' step') :=
  RtOk.of (sq_nx (ρ' := [cD (qPo self'), cD (qI step'), cO (self'.coefs.map qI), _, _]) (st_set (ev_e1 (ev_e1 ev_fro (by first | exact g_fld rfl rfl | exact g_attF rfl rfl)) rfl) rfl rfl)) (r_Poly_shifted_1 self' step' self'.coefs h)
theorem r_Poly_shifted (self' : Po) (step' : Int) (h : v_Poly_shifted self' step') : f_Poly_shifted [qPo self', qI step'] = some (.ok (.fro (qPo (q_Poly_shifted self' step')))) :=
  fn_F (e := qPo) (r_Poly_shifted_0 self' step' h)
theorem r_is_settled_1 {j0 : Option Cel}  : RtOk (b_is_settled_0 [j0]) (fun r x => x = .fro (qB r)) (q_is_settled_1) :=
  rt_ret ev_c rfl (by simp)
theorem r_is_settled_3 (p' : Po) (h : v_is_settled_3 p') : RtOk (b_is_settled_1 [cD (qPo p')]) (fun r x => x = .fro (qB r)) (q_is_settled_3 p') :=
  rt_ret (ev_e2 (ev_e1 (ev_e1 ev_fro (by first | exact g_fld rfl rfl | exact g_attF rfl rfl)) (g_minV h)) ev_c rfl) rfl (by simp)
theorem r_is_settled_4 (p' : Po) (h : v_is_settled_4 p') : RtOk (b_is_settled_2 [cD (qPo p')]) (fun r x => x = .fro (qB r)) (q_is_settled_4 p') :=
  rt_ret (ev_e2 (ev_e1 (ev_e1 ev_fro (by first | exact g_fld rfl rfl | exact g_attF rfl rfl)) (g_maxV h)) ev_c rfl) rfl (by simp)
theorem r_is_settled_2 (p' : Po) (h : v_is_settled_2 p') : RtOk (b_is_settled_3 [cD (qPo p')]) (fun r x => x = .fro (qB r)) (q_is_settled_2 p') :=
  rt_sif (tv_b (ev_e2 (ev_e2 (ev_e1 ev_fro (by first | exact g_fld rfl rfl | exact g_attF rfl rfl)) ev_c (g_ixV (e := qI) h.1)) ev_c rfl)) (fun hb3 => rt_seq (r_is_settled_3 p' (h.2.1 hb3))) (fun hb3 => RtOk.of (sq_nx rfl) (r_is_settled_4 p' (h.2.2 hb3)))
theorem r_is_settled_0 (p' : Po) (h : v_is_settled_0 p') : RtOk (b_is_settled_4 [cD (qPo p')]) (fun r x => x = .fro (qB r)) (q_is_settled_0 p') :=
  rt_sif (tv_or (tv_tru (ev_e1 ev_fro (g_attP (r_Poly_is_zero p') rfl rfl rfl)) rfl) (fun hb1 => tv_b (ev_e2 (ev_e2 (ev_e1 ev_fro (by first | exact g_fld rfl rfl | exact g_attF rfl rfl)) ev_c (g_ixV (e := qI) (h.1 hb1))) ev_c g_eqI))) (fun hb2 => rt_seq r_is_settled_1) (fun hb2 => RtOk.of (sq_nx rfl) (r_is_settled_2 p' (h.2 hb2)))
theorem r_is_settled (p' : Po) (h : v_is_settled p') : f_is_settled [qPo p'] = some (.ok (.fro (qB (q_is_settled p')))) :=
  fn_F (e := qB) (r_is_settled_0 p' h)
theorem r_settled_from_2 {j0 : Option Cel} {j2 : Option Cel} {j3 : Option Cel} {j4 : Option Cel} {j5 : Option Cel} (start' : Int) : RtOk (b_settled_from_1 [j0, cD (qI start'), j2, j3, j4, j5]) (fun r x => x = .fro (qI r)) (q_settled_from_2 start') :=
  rt_retF rfl rfl
theorem r_settled_from_5 {j3 : Option Cel} {j4 : Option Cel} {j5 : Option Cel} (p' : Po) (start' : Int) (step' : Int) (h : v_settled_from_5 p' start' step') : NxOk (b_settled_from_2 [cD (qPo p'), cD (qI start'), cD (qI step'), j3, j4, j5]) (fun (s : Int) w => ∃ (j3 : Option Cel) (j4 : Option Cel) (j5 : Option Cel), w = [cD (qPo p'), cD (qI start'), cD (qI s), j3, j4, j5]) (q_settled_from_5 p' start' step') :=
  nx_st (ρ' := [cD (qPo p'), cD (qI start'), cD (qI (step' * (2 : Int))), _, _, _]) (st_set (ev_e2 ev_fro ev_c (g_mul h)) rfl rfl) ⟨_, _, _, rfl⟩
theorem r_settled_from_12 {j1 : Option Cel} {j2 : Option Cel} (p' : Po) (low' : Int) (high' : Int) (middle' : Int) : NxOk (b_settled_from_3 [cD (qPo p'), j1, j2, cD (qI low'), cD (qI high'), cD (qI middle')]) (fun (s : Int × Int) w => ∃ (j1 : Option Cel) (j2 : Option Cel) (j5 : Option Cel), w = [cD (qPo p'), j1, j2, cD (qI s.1), cD (qI s.2), j5]) (q_settled_from_12 p' low' high' middle') :=
  nx_st (ρ' := [cD (qPo p'), _, _, cD (qI low'), cD (qI middle'), cD (qI middle')]) (st_set ev_fro rfl rfl) ⟨_, _, _, rfl⟩
theorem r_settled_from_13 {j1 : Option Cel} {j2 : Option Cel} (p' : Po) (low' : Int) (high' : Int) (middle' : Int) : NxOk (b_settled_from_4 [cD (qPo p'), j1, j2, cD (qI low'), cD (qI high'), cD (qI middle')]) (fun (s : Int × Int) w => ∃ (j1 : Option Cel) (j2 : Option Cel) (j5 : Option Cel), w = [cD (qPo p'), j1, j2, cD (qI s.1), cD (qI s.2), j5]) (q_settled_from_13 p' low' high' middle') :=
  nx_st (ρ' := [cD (qPo p'), _, _, cD (qI middle'), cD (qI high'), cD (qI middle')]) (st_set ev_fro rfl rfl) ⟨_, _, _, rfl⟩
theorem r_settled_from_11 {j1 : Option Cel} {j2 : Option Cel} (p' : Po) (low' : Int) (high' : Int) (middle' : Int) (h : v_settled_from_11 p' low' high' middle') : NxOk (b_settled_from_5 [cD (qPo p'), j1, j2, cD (qI low'), cD (qI high'), cD (qI middle')]) (fun (s : Int × Int) w => ∃ (j1 : Option Cel) (j2 : Option Cel) (j5 : Option Cel), w = [cD (qPo p'), j1, j2, cD (qI s.1), cD (qI s.2), j5]) (q_settled_from_11 p' low' high' middle') :=
  nx_if (tv_tru (ev_call (r_is_settled (q_Poly_shifted p' middle') h.2) (av_cons (ev_meth (gD := (fun ds => ds)) (r_Poly_shifted p' middle' h.1) ev_fro (av_cons ev_fro rfl av_nil) rfl rfl rfl) rfl av_nil)) rfl) (fun hb5 => r_settled_from_12 p' low' high' middle') (fun hb5 => r_settled_from_13 p' low' high' middle')
theorem r_settled_from_10 {j1 : Option Cel} {j2 : Option Cel} {j5 : Option Cel} (p' : Po) (low' : Int) (high' : Int) (h : v_settled_from_10 p' low' high') : NxOk (b_settled_from_6 [cD (qPo p'), j1, j2, cD (qI low'), cD (qI high'), j5]) (fun (s : Int × Int) w => ∃ (j1 : Option Cel) (j2 : Option Cel) (j5 : Option Cel), w = [cD (qPo p'), j1, j2, cD (qI s.1), cD (qI s.2), j5]) (q_settled_from_10 p' low' high') :=
  NxOk.of (sq_nx (ρ' := [cD (qPo p'), _, _, cD (qI low'), cD (qI high'), cD (qI (Int.fdiv (low' + high') (2 : Int)))]) (st_set (ev_e2 (ev_e2 ev_fro ev_fro rfl) ev_c (g_div (by decide))) rfl rfl)) (r_settled_from_11 p' low' high' (Int.fdiv (low' + high') (2 : Int)) h)
theorem r_settled_from_15 {j0 : Option Cel} {j1 : Option Cel} {j2 : Option Cel} {j3 : Option Cel} {j5 : Option Cel} (high' : Int) : RtOk (b_settled_from_7 [j0, j1, j2, j3, cD (qI high'), j5]) (fun r x => x = .fro (qI r)) (q_settled_from_15 high') :=
  rt_retF rfl rfl
theorem r_settled_from_9 {j1 : Option Cel} {j2 : Option Cel} {j5 : Option Cel} (p' : Po) (low' : Int) (high' : Int) (h : v_settled_from_9 p' low' high') : RtOk (b_settled_from_8 [cD (qPo p'), j1, j2, cD (qI low'), cD (qI high'), j5]) (fun r x => x = .fro (qI r)) (q_settled_from_9 p' low' high') :=
  sq_NR (E := (fun (s : Int × Int) w => ∃ (j1 : Option Cel) (j2 : Option Cel) (j5 : Option Cel), w = [cD (qPo p'), j1, j2, cD (qI s.1), cD (qI s.2), j5])) (q := q_settled_from_14 p' low' high') (while_N (E := (fun (s : Int × Int) w => ∃ (j1 : Option Cel) (j2 : Option Cel) (j5 : Option Cel), w = [cD (qPo p'), j1, j2, cD (qI s.1), cD (qI s.2), j5])) (t' := fun (s6 : Int × Int) => (decide ((s6.2 - s6.1) > (1 : Int)))) (Vt := fun (s6 : Int × Int) => True) (f := fun (s6 : Int × Int) => q_settled_from_10 p' s6.1 s6.2) (V := fun (s6 : Int × Int) => v_settled_from_10 p' s6.1 s6.2) (fun s6 ρ hρ hv7 => by obtain ⟨_, _, _, rfl⟩ := hρ; exact tv_b (ev_e2 (ev_e2 ev_fro ev_fro rfl) ev_c rfl)) (fun s6 ρ hρ hv7 _ => by obtain ⟨_, _, _, rfl⟩ := hρ; exact r_settled_from_10 p' s6.1 s6.2 hv7) ⟨_, _, _, rfl⟩ h) (fun w hw => by obtain ⟨_, _, _, rfl⟩ := hw; exact r_settled_from_15 ((q_settled_from_14 p' low' high').2))
theorem r_settled_from_8 {j4 : Option Cel} {j5 : Option Cel} (p' : Po) (start' : Int) (step' : Int) (low' : Int) (h : v_settled_from_8 p' start' step' low') : RtOk (b_settled_from_9 [cD (qPo p'), cD (qI start'), cD (qI step'), cD (qI low'), j4, j5]) (fun r x => x = .fro (qI r)) (q_settled_from_8 p' start' step' low') :=
  RtOk.of (sq_nx (ρ' := [cD (qPo p'), cD (qI start'), cD (qI step'), cD (qI low'), cD (qI (start' + step')), _]) (st_set (ev_e2 ev_fro ev_fro rfl) rfl rfl)) (r_settled_from_9 p' low' (start' + step') h)
theorem r_settled_from_7 {j3 : Option Cel} {j4 : Option Cel} {j5 : Option Cel} (p' : Po) (start' : Int) (step' : Int) (h : v_settled_from_7 p' start' step') : RtOk (b_settled_from_10 [cD (qPo p'), cD (qI start'), cD (qI step'), j3, j4, j5]) (fun r x => x = .fro (qI r)) (q_settled_from_7 p' start' step') :=
  RtOk.of (sq_nx (ρ' := [cD (qPo p'), cD (qI start'), cD (qI step'), cD (qI (start' + (Int.fdiv step' (2 : Int)))), _, _]) (st_set (ev_e2 ev_fro (ev_e2 ev_fro ev_c (g_div (by decide))) rfl) rfl rfl)) (r_settled_from_8 p' start' step' (start' + (Int.fdiv step' (2 : Int))) h)
theorem r_settled_from_4 {j3 : Option Cel} {j4 : Option Cel} {j5 : Option Cel} (p' : Po) (start' : Int) (step' : Int) (h : v_settled_from_4 p' start' step') : RtOk (b_settled_from_11 [cD (qPo p'), cD (qI start'), cD (qI step'), j3, j4, j5]) (fun r x => x = .fro (qI r)) (q_settled_from_4 p' start' step') :=
  sq_NR (E := (fun (s : Int) w => ∃ (j3 : Option Cel) (j4 : Option Cel) (j5 : Option Cel), w = [cD (qPo p'), cD (qI start'), cD (qI s), j3, j4, j5])) (q := q_settled_from_6 p' start' step') (while_N (E := (fun (s : Int) w => ∃ (j3 : Option Cel) (j4 : Option Cel) (j5 : Option Cel), w = [cD (qPo p'), cD (qI start'), cD (qI s), j3, j4, j5])) (t' := fun (s3 : Int) => (!(q_is_settled (q_Poly_shifted p' (start' + s3))))) (Vt := fun (s3 : Int) => (v_Poly_shifted p' (start' + s3) ∧ v_is_settled (q_Poly_shifted p' (start' + s3)))) (f := fun (s3 : Int) => q_settled_from_5 p' start' s3) (V := fun (s3 : Int) => v_settled_from_5 p' start' s3) (fun s3 ρ hρ hv4 => by obtain ⟨_, _, _, rfl⟩ := hρ; exact tv_not (tv_tru (ev_call (r_is_settled (q_Poly_shifted p' (start' + s3)) hv4.2) (av_cons (ev_meth (gD := (fun ds => ds)) (r_Poly_shifted p' (start' + s3) hv4.1) ev_fro (av_cons (ev_e2 ev_fro ev_fro rfl) rfl av_nil) rfl rfl rfl) rfl av_nil)) rfl)) (fun s3 ρ hρ hv4 _ => by obtain ⟨_, _, _, rfl⟩ := hρ; exact r_settled_from_5 p' start' s3 hv4) ⟨_, _, _, rfl⟩ h.1) (fun w hw => by obtain ⟨_, _, _, rfl⟩ := hw; exact r_settled_from_7 p' start' (q_settled_from_6 p' start' step') h.2)
theorem r_settled_from_3 {j2 : Option Cel} {j3 : Option Cel} {j4 : Option Cel} {j5 : Option Cel} (p' : Po) (start' : Int) (h : v_settled_from_3 p' start') : RtOk (b_settled_from_12 [cD (qPo p'), cD (qI start'), j2, j3, j4, j5]) (fun r x => x = .fro (qI r)) (q_settled_from_3 p' start') :=
  RtOk.of (sq_nx (ρ' := [cD (qPo p'), cD (qI start'), cD (qI (1 : Int)), _, _, _]) (st_set ev_c rfl rfl)) (r_settled_from_4 p' start' (1 : Int) h)
theorem r_settled_from_1 {j2 : Option Cel} {j3 : Option Cel} {j4 : Option Cel} {j5 : Option Cel} (p' : Po) (start' : Int) (h : v_settled_from_1 p' start') : RtOk (b_settled_from_13 [cD (qPo p'), cD (qI start'), j2, j3, j4, j5]) (fun r x => x = .fro (qI r)) (q_settled_from_1 p' start') :=
  rt_sif (tv_tru (ev_call (r_is_settled (q_Poly_shifted p' start') h.2.1) (av_cons (ev_meth (gD := (fun ds => ds)) (r_Poly_shifted p' start' h.1) ev_fro (av_cons ev_fro rfl av_nil) rfl rfl rfl) rfl av_nil)) rfl) (fun hb2 => rt_seq (r_settled_from_2 start')) (fun hb2 => RtOk.of (sq_nx rfl) (r_settled_from_3 p' start' (h.2.2 hb2)))
theorem r_settled_from_0 {j2 : Option Cel} {j3 : Option Cel} {j4 : Option Cel} {j5 : Option Cel} (p' : Po) (start' : Int) (h : v_settled_from_0 p' start') : RtOk (b_settled_from_14 [cD (qPo p'), cD (qI start'), j2, j3, j4, j5]) (fun r x => x = .fro (qI r)) (q_settled_from_0 p' start') :=
  RtOk.of (sqi_f (tv_eq (tv_tru (ev_e1 ev_fro (g_attP (r_Poly_is_zero p') rfl rfl rfl)) rfl) h.1)) (RtOk.of (sq_nx rfl) (r_settled_from_1 p' start' h.2))
theorem r_settled_from (p' : Po) (start' : Int) (h : v_settled_from p' start') : f_settled_from [qPo p', qI start'] = some (.ok (.fro (qI (q_settled_from p' start')))) :=
  fn_F (e := qI) (r_settled_from_0 p' start' h)
theorem r_may_have_root_3 {j0 : Option Cel} (low' : Int) (high' : Int) (numbers' : List Int) (change' : Int) (number' : Int) (h : v_may_have_root_3 low' high' numbers' change' number') : NxOk (b_may_have_root_0 [j0, cD (qI low'), cD (qI high'), cD (qV qI numbers'), cD (qI change'), cD (qI number')]) (fun (s : Int) w => ∃ (j0 : Option Cel) (j5 : Option Cel), w = [j0, cD (qI low'), cD (qI high'), cD (qV qI numbers'), cD (qI s), j5]) (q_may_have_root_3 low' high' numbers' change' number') :=
  nx_st (ρ' := [_, cD (qI low'), cD (qI high'), cD (qV qI numbers'), cD (qI ((change' + (number'.natAbs : Int)) * (high' - low'))), cD (qI number')]) (st_set (ev_e2 (ev_e2 ev_fro (ev_e1 ev_fro g_abs) rfl) (ev_e2 ev_fro ev_fro rfl) (g_mul h)) rfl rfl) ⟨_, _, rfl⟩
theorem r_may_have_root_5 {j0 : Option Cel} {j1 : Option Cel} {j2 : Option Cel} {j5 : Option Cel} (numbers' : List Int) (change' : Int) (h : v_may_have_root_5 numbers' change') : RtOk (b_may_have_root_1 [j0, j1, j2, cD (qV qI numbers'), cD (qI change'), j5]) (fun r x => x = .fro (qB r)) (q_may_have_root_5 numbers' change') :=
  rt_ret (ev_e2 (ev_e1 (ev_e2 ev_fro ev_c (g_ixV (e := qI) h)) g_abs) ev_fro rfl) rfl (by simp)
theorem r_may_have_root_2 {j0 : Option Cel} {j5 : Option Cel} (low' : Int) (high' : Int) (numbers' : List Int) (change' : Int) (h : v_may_have_root_2 low' high' numbers' change') : RtOk (b_may_have_root_2 [j0, cD (qI low'), cD (qI high'), cD (qV qI numbers'), cD (qI change'), j5]) (fun r x => x = .fro (qB r)) (q_may_have_root_2 low' high' numbers' change') :=
  sq_NR (E := (fun (s : Int) w => ∃ (j0 : Option Cel) (j5 : Option Cel), w = [j0, cD (qI low'), cD (qI high'), cD (qV qI numbers'), cD (qI s), j5])) (q := q_may_have_root_4 low' high' numbers' change') (NxOk.of (sfor_eq (iv_revV (ev_slV (e := qI) ev_fro (ov_some ev_c) ov_none h.1))) (for_N (E := (fun (s : Int) w => ∃ (j0 : Option Cel) (j5 : Option Cel), w = [j0, cD (qI low'), cD (qI high'), cD (qV qI numbers'), cD (qI s), j5])) (V := fun (s1 : Int) (x2 : Int) => v_may_have_root_3 low' high' numbers' s1 x2) (f := fun (s1 : Int) (x2 : Int) => q_may_have_root_3 low' high' numbers' s1 x2) (e := qI) (fun s1 x2 ρ hρ hv3 => by obtain ⟨_, _, rfl⟩ := hρ; exact ⟨_, rfl, r_may_have_root_3 low' high' numbers' s1 x2 hv3⟩) ((cutT numbers' (some (1 : Int)) none).reverse) change' _ ⟨_, _, rfl⟩ h.2.1)) (fun w hw => by obtain ⟨_, _, rfl⟩ := hw; exact r_may_have_root_5 numbers' (q_may_have_root_4 low' high' numbers' change') h.2.2)
theorem r_may_have_root_1 {j0 : Option Cel} {j4 : Option Cel} {j5 : Option Cel} (low' : Int) (high' : Int) (numbers' : List Int) (h : v_may_have_root_1 low' high' numbers') : RtOk (b_may_have_root_3 [j0, cD (qI low'), cD (qI high'), cD (qV qI numbers'), j4, j5]) (fun r x => x = .fro (qB r)) (q_may_have_root_1 low' high' numbers') :=
  RtOk.of (sq_nx (ρ' := [_, cD (qI low'), cD (qI high'), cD (qV qI numbers'), cD (qI (0 : Int)), _]) (st_set ev_c rfl rfl)) (r_may_have_root_2 low' high' numbers' (0 : Int) h)
theorem r_may_have_root_0 {j3 : Option Cel} {j4 : Option Cel} {j5 : Option Cel} (p' : Po) (low' : Int) (high' : Int) (h : v_may_have_root_0 p' low' high') : RtOk (b_may_have_root_4 [cD (qPo p'), cD (qI low'), cD (qI high'), j3, j4, j5]) (fun r x => x = .fro (qB r)) (q_may_have_root_0 p' low' high') :=
  RtOk.of (sq_nx (ρ' := [cD (qPo p'), cD (qI low'), cD (qI high'), cD (qV qI ((q_Poly_shifted p' low').coefs)), _, _]) (st_set (ev_e1 (ev_meth (gD := (fun ds => ds)) (r_Poly_shifted p' low' h.1) ev_fro (av_cons ev_fro rfl av_nil) rfl rfl rfl) (by first | exact g_fld rfl rfl | exact g_attF rfl rfl)) rfl rfl)) (r_may_have_root_1 low' high' ((q_Poly_shifted p' low').coefs) h.2)
theorem r_may_have_root (p' : Po) (low' : Int) (high' : Int) (h : v_may_have_root p' low' high') : f_may_have_root [qPo p', qI low', qI high'] = some (.ok (.fro (qB (q_may_have_root p' low' high')))) :=
  fn_F (e := qB) (r_may_have_root_0 p' low' high' h)
theorem r_roots_between_4 {j5 : Option Cel} {j6 : Option Cel} {j7 : Option Cel} (p' : Po) (low' : Int) (high' : Int) (found' : List Int) (pending' : List (Int × Int)) (h : v_roots_between_4 p' low' high' found' pending') : NxOk (b_roots_between_1 [cD (qPo p'), cD (qI low'), cD (qI high'), cO (found'.map qI), cO (pending'.map (qT2 qI qI)), j5, j6, j7]) (fun (s : (List (Int × Int))) w => ∃ (j1 : Option Cel) (j2 : Option Cel) (j5 : Option Cel) (j6 : Option Cel) (j7 : Option Cel), w = [cD (qPo p'), j1, j2, cO (found'.map qI), cO (s.map (qT2 qI qI)), j5, j6, j7]) (q_roots_between_4 p' low' high' found' pending') :=
  nx_st (ρ' := [cD (qPo p'), cD (qI low'), cD (qI high'), cO (found'.map qI), cO ((pending' ++ [(low', high')]).map (qT2 qI qI)), _, _, _]) (st_appT (e := qT2 qI qI) rfl (ev_tup (av_cons ev_fro rfl (av_cons ev_fro rfl av_nil)) (Nat.le_of_ble_eq_true rfl)) rfl h rfl) ⟨_, _, _, _, _, rfl⟩
theorem r_roots_between_10 {j1 : Option Cel} {j2 : Option Cel} {j6 : Option Cel} {j7 : Option Cel} (p' : Po) (found' : List Int) (pending' : List (Int × Int)) (left' : Int) (h : v_roots_between_10 p' found' pending' left') : NxOk (b_roots_between_2 [cD (qPo p'), j1, j2, cO (found'.map qI), cO (pending'.map (qT2 qI qI)), cD (qI left'), j6, j7]) (fun (s : (List Int) × (List (Int × Int))) w => ∃ (j1 : Option Cel) (j2 : Option Cel) (j5 : Option Cel) (j6 : Option Cel) (j7 : Option Cel), w = [cD (qPo p'), j1, j2, cO (s.1.map qI), cO (s.2.map (qT2 qI qI)), j5, j6, j7]) (q_roots_between_10 p' found' pending' left') :=
  nx_st (ρ' := [cD (qPo p'), _, _, cO ((found' ++ [left']).map qI), cO (pending'.map (qT2 qI qI)), cD (qI left'), _, _]) (st_appT (e := qI) rfl ev_fro rfl h rfl) ⟨_, _, _, _, _, rfl⟩
theorem r_roots_between_13 {j1 : Option Cel} {j2 : Option Cel} {j6 : Option Cel} (p' : Po) (found' : List Int) (pending' : List (Int × Int)) (left' : Int) (middle' : Int) (h : v_roots_between_13 p' found' pending' left' middle') : NxOk (b_roots_between_3 [cD (qPo p'), j1, j2, cO (found'.map qI), cO (pending'.map (qT2 qI qI)), cD (qI left'), j6, cD (qI middle')]) (fun (s : (List Int) × (List (Int × Int))) w => ∃ (j1 : Option Cel) (j2 : Option Cel) (j5 : Option Cel) (j6 : Option Cel) (j7 : Option Cel), w = [cD (qPo p'), j1, j2, cO (s.1.map qI), cO (s.2.map (qT2 qI qI)), j5, j6, j7]) (q_roots_between_13 p' found' pending' left' middle') :=
  nx_st (ρ' := [cD (qPo p'), _, _, cO (found'.map qI), cO ((pending' ++ [(left', middle')]).map (qT2 qI qI)), cD (qI left'), _, cD (qI middle')]) (st_appT (e := qT2 qI qI) rfl (ev_tup (av_cons ev_fro rfl (av_cons ev_fro rfl av_nil)) (Nat.le_of_ble_eq_true rfl)) rfl h rfl) ⟨_, _, _, _, _, rfl⟩
theorem r_roots_between_12 {j1 : Option Cel} {j2 : Option Cel} (p' : Po) (found' : List Int) (pending' : List (Int × Int)) (left' : Int) (right' : Int) (middle' : Int) (h : v_roots_between_12 p' found' pending' left' right' middle') : NxOk (b_roots_between_4 [cD (qPo p'), j1, j2, cO (found'.map qI), cO (pending'.map (qT2 qI qI)), cD (qI left'), cD (qI right'), cD (qI middle')]) (fun (s : (List Int) × (List (Int × Int))) w => ∃ (j1 : Option Cel) (j2 : Option Cel) (j5 : Option Cel) (j6 : Option Cel) (j7 : Option Cel), w = [cD (qPo p'), j1, j2, cO (s.1.map qI), cO (s.2.map (qT2 qI qI)), j5, j6, j7]) (q_roots_between_12 p' found' pending' left' right' middle') :=
  NxOk.of (sq_nx (ρ' := [cD (qPo p'), _, _, cO (found'.map qI), cO ((pending' ++ [((middle' + (1 : Int)), right')]).map (qT2 qI qI)), cD (qI left'), cD (qI right'), cD (qI middle')]) (st_appT (e := qT2 qI qI) rfl (ev_tup (av_cons (ev_e2 ev_fro ev_c rfl) rfl (av_cons ev_fro rfl av_nil)) (Nat.le_of_ble_eq_true rfl)) rfl h.1 rfl)) (r_roots_between_13 p' found' (pending' ++ [((middle' + (1 : Int)), right')]) left' middle' h.2)
theorem r_roots_between_11 {j1 : Option Cel} {j2 : Option Cel} {j7 : Option Cel} (p' : Po) (found' : List Int) (pending' : List (Int × Int)) (left' : Int) (right' : Int) (h : v_roots_between_11 p' found' pending' left' right') : NxOk (b_roots_between_5 [cD (qPo p'), j1, j2, cO (found'.map qI), cO (pending'.map (qT2 qI qI)), cD (qI left'), cD (qI right'), j7]) (fun (s : (List Int) × (List (Int × Int))) w => ∃ (j1 : Option Cel) (j2 : Option Cel) (j5 : Option Cel) (j6 : Option Cel) (j7 : Option Cel), w = [cD (qPo p'), j1, j2, cO (s.1.map qI), cO (s.2.map (qT2 qI qI)), j5, j6, j7]) (q_roots_between_11 p' found' pending' left' right') :=
  NxOk.of (sq_nx (ρ' := [cD (qPo p'), _, _, cO (found'.map qI), cO (pending'.map (qT2 qI qI)), cD (qI left'), cD (qI right'), cD (qI (Int.fdiv (left' + right') (2 : Int)))]) (st_set (ev_e2 (ev_e2 ev_fro ev_fro rfl) ev_c (g_div (by decide))) rfl rfl)) (r_roots_between_12 p' found' pending' left' right' (Int.fdiv (left' + right') (2 : Int)) h)
theorem r_roots_between_9 {j1 : Option Cel} {j2 : Option Cel} {j7 : Option Cel} (p' : Po) (found' : List Int) (pending' : List (Int × Int)) (left' : Int) (right' : Int) (h : v_roots_between_9 p' found' pending' left' right') : NxOk (b_roots_between_6 [cD (qPo p'), j1, j2, cO (found'.map qI), cO (pending'.map (qT2 qI qI)), cD (qI left'), cD (qI right'), j7]) (fun (s : (List Int) × (List (Int × Int))) w => ∃ (j1 : Option Cel) (j2 : Option Cel) (j5 : Option Cel) (j6 : Option Cel) (j7 : Option Cel), w = [cD (qPo p'), j1, j2, cO (s.1.map qI), cO (s.2.map (qT2 qI qI)), j5, j6, j7]) (q_roots_between_9 p' found' pending' left' right') :=
  nx_if (tv_b (ev_e2 ev_fro ev_fro g_eqI)) (fun hb4 => r_roots_between_10 p' found' pending' left' (h.1 hb4)) (fun hb4 => r_roots_between_11 p' found' pending' left' right' (h.2 hb4))
theorem r_roots_between_8 {j1 : Option Cel} {j2 : Option Cel} {j7 : Option Cel} (p' : Po) (found' : List Int) (pending' : List (Int × Int)) (left' : Int) (right' : Int) (h : v_roots_between_8 p' found' pending' left' right') : NxOk (b_roots_between_7 [cD (qPo p'), j1, j2, cO (found'.map qI), cO (pending'.map (qT2 qI qI)), cD (qI left'), cD (qI right'), j7]) (fun (s : (List Int) × (List (Int × Int))) w => ∃ (j1 : Option Cel) (j2 : Option Cel) (j5 : Option Cel) (j6 : Option Cel) (j7 : Option Cel), w = [cD (qPo p'), j1, j2, cO (s.1.map qI), cO (s.2.map (qT2 qI qI)), j5, j6, j7]) (q_roots_between_8 p' found' pending' left' right') :=
  nx_if (tv_tru (ev_call (r_may_have_root p' left' right' h.1) (av_cons ev_fro rfl (av_cons ev_fro rfl (av_cons ev_fro rfl av_nil)))) rfl) (fun hb3 => r_roots_between_9 p' found' pending' left' right' (h.2 hb3)) (fun hb3 => nx_next ⟨_, _, _, _, _, rfl⟩)
theorem r_roots_between_7 {j1 : Option Cel} {j2 : Option Cel} {j5 : Option Cel} {j6 : Option Cel} {j7 : Option Cel} (p' : Po) (found' : List Int) (pending' : List (Int × Int)) (h : v_roots_between_7 p' found' pending') : NxOk (b_roots_between_8 [cD (qPo p'), j1, j2, cO (found'.map qI), cO (pending'.map (qT2 qI qI)), j5, j6, j7]) (fun (s : (List Int) × (List (Int × Int))) w => ∃ (j1 : Option Cel) (j2 : Option Cel) (j5 : Option Cel) (j6 : Option Cel) (j7 : Option Cel), w = [cD (qPo p'), j1, j2, cO (s.1.map qI), cO (s.2.map (qT2 qI qI)), j5, j6, j7]) (q_roots_between_7 p' found' pending') :=
  NxOk.of (sq_nx (ρ' := [cD (qPo p'), _, _, cO (found'.map qI), cO (pending'.dropLast.map (qT2 qI qI)), cD (qI ((lastT pending').1)), cD (qI ((lastT pending').2)), _]) (st_popTo (e := qT2 qI qI) rfl h.1 rfl)) (r_roots_between_8 p' found' pending'.dropLast ((lastT pending').1) ((lastT pending').2) h.2)
theorem r_roots_between_15 {j0 : Option Cel} {j1 : Option Cel} {j2 : Option Cel} {j4 : Option Cel} {j5 : Option Cel} {j6 : Option Cel} {j7 : Option Cel} (found' : List Int) : RtOk (b_roots_between_9 [j0, j1, j2, cO (found'.map qI), j4, j5, j6, j7]) (fun r x => x = .own (r.map qI)) (q_roots_between_15 found') :=
  rt_retO rfl rfl
theorem r_roots_between_6 {j1 : Option Cel} {j2 : Option Cel} {j5 : Option Cel} {j6 : Option Cel} {j7 : Option Cel} (p' : Po) (found' : List Int) (pending' : List (Int × Int)) (h : v_roots_between_6 p' found' pending') : RtOk (b_roots_between_10 [cD (qPo p'), j1, j2, cO (found'.map qI), cO (pending'.map (qT2 qI qI)), j5, j6, j7]) (fun r x => x = .own (r.map qI)) (q_roots_between_6 p' found' pending') :=
  sq_NR (E := (fun (s : (List Int) × (List (Int × Int))) w => ∃ (j1 : Option Cel) (j2 : Option Cel) (j5 : Option Cel) (j6 : Option Cel) (j7 : Option Cel), w = [cD (qPo p'), j1, j2, cO (s.1.map qI), cO (s.2.map (qT2 qI qI)), j5, j6, j7])) (q := q_roots_between_14 p' found' pending') (while_N (E := (fun (s : (List Int) × (List (Int × Int))) w => ∃ (j1 : Option Cel) (j2 : Option Cel) (j5 : Option Cel) (j6 : Option Cel) (j7 : Option Cel), w = [cD (qPo p'), j1, j2, cO (s.1.map qI), cO (s.2.map (qT2 qI qI)), j5, j6, j7])) (t' := fun (s5 : (List Int) × (List (Int × Int))) => (decide ((s5.2.length : Int) > (0 : Int)))) (Vt := fun (s5 : (List Int) × (List (Int × Int))) => True) (f := fun (s5 : (List Int) × (List (Int × Int))) => q_roots_between_7 p' s5.1 s5.2) (V := fun (s5 : (List Int) × (List (Int × Int))) => v_roots_between_7 p' s5.1 s5.2) (fun s5 ρ hρ hv6 => by obtain ⟨_, _, _, _, _, rfl⟩ := hρ; exact tv_b (ev_e2 (ev_e1 ev_own (g_len (k := .bor))) ev_c rfl)) (fun s5 ρ hρ hv6 _ => by obtain ⟨_, _, _, _, _, rfl⟩ := hρ; exact r_roots_between_7 p' s5.1 s5.2 hv6) ⟨_, _, _, _, _, rfl⟩ h) (fun w hw => by obtain ⟨_, _, _, _, _, rfl⟩ := hw; exact r_roots_between_15 ((q_roots_between_14 p' found' pending').1))
theorem r_roots_between_3 {j5 : Option Cel} {j6 : Option Cel} {j7 : Option Cel} (p' : Po) (low' : Int) (high' : Int) (found' : List Int) (pending' : List (Int × Int)) (h : v_roots_between_3 p' low' high' found' pending') : RtOk (b_roots_between_11 [cD (qPo p'), cD (qI low'), cD (qI high'), cO (found'.map qI), cO (pending'.map (qT2 qI qI)), j5, j6, j7]) (fun r x => x = .own (r.map qI)) (q_roots_between_3 p' low' high' found' pending') :=
  sq_NR (E := (fun (s : (List (Int × Int))) w => ∃ (j1 : Option Cel) (j2 : Option Cel) (j5 : Option Cel) (j6 : Option Cel) (j7 : Option Cel), w = [cD (qPo p'), j1, j2, cO (found'.map qI), cO (s.map (qT2 qI qI)), j5, j6, j7])) (q := q_roots_between_5 p' low' high' found' pending') (nx_if (tv_b (ev_e2 ev_fro ev_fro rfl)) (fun hb2 => r_roots_between_4 p' low' high' found' pending' (h.1 hb2)) (fun hb2 => nx_next ⟨_, _, _, _, _, rfl⟩)) (fun w hw => by obtain ⟨_, _, _, _, _, rfl⟩ := hw; exact r_roots_between_6 p' found' (q_roots_between_5 p' low' high' found' pending') h.2)
theorem r_roots_between_2 {j4 : Option Cel} {j5 : Option Cel} {j6 : Option Cel} {j7 : Option Cel} (p' : Po) (low' : Int) (high' : Int) (found' : List Int) (h : v_roots_between_2 p' low' high' found') : RtOk (b_roots_between_12 [cD (qPo p'), cD (qI low'), cD (qI high'), cO (found'.map qI), j4, j5, j6, j7]) (fun r x => x = .own (r.map qI)) (q_roots_between_2 p' low' high' found') :=
  RtOk.of (sq_nx (ρ' := [cD (qPo p'), cD (qI low'), cD (qI high'), cO (found'.map qI), cO (([] : List (Int × Int)).map (qT2 qI qI)), _, _, _]) (st_set (ev_lst av_nil) rfl rfl)) (r_roots_between_3 p' low' high' found' ([] : List (Int × Int)) h)
theorem r_roots_between_1 {j3 : Option Cel} {j4 : Option Cel} {j5 : Option Cel} {j6 : Option Cel} {j7 : Option Cel} (p' : Po) (low' : Int) (high' : Int) (h : v_roots_between_1 p' low' high') : RtOk (b_roots_between_13 [cD (qPo p'), cD (qI low'), cD (qI high'), j3, j4, j5, j6, j7]) (fun r x => x = .own (r.map qI)) (q_roots_between_1 p' low' high') :=
  RtOk.of (sq_nx (ρ' := [cD (qPo p'), cD (qI low'), cD (qI high'), cO (([] : List Int).map qI), _, _, _, _]) (st_set (ev_lst av_nil) rfl rfl)) (r_roots_between_2 p' low' high' ([] : List Int) h)
theorem r_roots_between_0 {j3 : Option Cel} {j4 : Option Cel} {j5 : Option Cel} {j6 : Option Cel} {j7 : Option Cel} (p' : Po) (low' : Int) (high' : Int) (h : v_roots_between_0 p' low' high') : RtOk (b_roots_between_14 [cD (qPo p'), cD (qI low'), cD (qI high'), j3, j4, j5, j6, j7]) (fun r x => x = .own (r.map qI)) (q_roots_between_0 p' low' high') :=
  RtOk.of (sqi_f (tv_eq (tv_tru (ev_e1 ev_fro (g_attP (r_Poly_is_zero p') rfl rfl rfl)) rfl) h.1)) (RtOk.of (sq_nx rfl) (r_roots_between_1 p' low' high' h.2))
theorem r_roots_between (p' : Po) (low' : Int) (high' : Int) (h : v_roots_between p' low' high') : f_roots_between [qPo p', qI low', qI high'] = some (.ok (.own ((q_roots_between p' low' high').map qI))) :=
  fn_O (r_roots_between_0 p' low' high' h)
theorem r_roots_from_1 (p' : Po) (start' : Int) (high' : Int) (h : v_roots_from_1 p' start' high') : RtOk (b_roots_from_0 [cD (qPo p'), cD (qI start'), cD (qI high')]) (fun r x => x = .own (r.map qI)) (q_roots_from_1 p' start' high') :=
  rt_ret (ev_callk (ds := [qPo p']) (es := [qI start', qI high']) (r_roots_between p' start' high' h) (av_cons ev_fro rfl av_nil) (av_cons ev_fro rfl (av_cons ev_fro rfl av_nil))) rfl (by simp)
theorem r_roots_from_0 {j2 : Option Cel} (p' : Po) (start' : Int) (h : v_roots_from_0 p' start') : RtOk (b_roots_from_1 [cD (qPo p'), cD (qI start'), j2]) (fun r x => x = .own (r.map qI)) (q_roots_from_0 p' start') :=
  RtOk.of (sq_nx (ρ' := [cD (qPo p'), cD (qI start'), cD (qI ((q_settled_from p' start') - (1 : Int)))]) (st_set (ev_e2 (ev_callk (ds := [qPo p']) (es := [qI start']) (r_settled_from p' start' h.1) (av_cons ev_fro rfl av_nil) (av_cons ev_fro rfl av_nil)) ev_c rfl) rfl rfl)) (r_roots_from_1 p' start' ((q_settled_from p' start') - (1 : Int)) h.2)
theorem r_roots_from (p' : Po) (start' : Int) (h : v_roots_from p' start') : f_roots_from [qPo p', qI start'] = some (.ok (.own ((q_roots_from p' start').map qI))) :=
  fn_O (r_roots_from_0 p' start' h)
theorem r_law_is_integer_0 (x' : Int) : RtOk (b_law_is_integer_0 [cD (qI x')]) (fun r x => x = .fro (qB r)) (q_law_is_integer_0 x') :=
  rt_ret (ev_and (ev_e1 ev_fro rfl) (fun hb1 => ev_not (ev_e1 ev_fro rfl))) rfl (by simp)
theorem r_law_is_integer (x' : Int) : f_law_is_integer [qI x'] = some (.ok (.fro (qB (q_law_is_integer x')))) :=
  fn_F (e := qB) (r_law_is_integer_0 x')
theorem r_free_from_2 {j0 : Option Cel} {j2 : Option Cel} (start' : Int) : RtOk (b_free_from_0 [j0, cD (qI start'), j2]) (fun r x => x = .fro (qI r)) (q_free_from_2 start') :=
  rt_retF rfl rfl
theorem r_free_from_3 {j0 : Option Cel} {j1 : Option Cel} (roots' : List Int) (h : v_free_from_3 roots') : RtOk (b_free_from_1 [j0, j1, cO (roots'.map qI)]) (fun r x => x = .fro (qI r)) (q_free_from_3 roots') :=
  rt_ret (ev_e2 (ev_e2 ev_own (ev_e1 ev_c rfl) (g_ix (k := .bor) (e := qI) h)) ev_c rfl) rfl (by simp)
theorem r_free_from_1 {j0 : Option Cel} (start' : Int) (roots' : List Int) (h : v_free_from_1 start' roots') : RtOk (b_free_from_2 [j0, cD (qI start'), cO (roots'.map qI)]) (fun r x => x = .fro (qI r)) (q_free_from_1 start' roots') :=
  rt_sif (tv_b (ev_e2 (ev_e1 ev_own (g_len (k := .bor))) ev_c g_eqI)) (fun hb1 => rt_seq (r_free_from_2 start')) (fun hb1 => RtOk.of (sq_nx rfl) (r_free_from_3 roots' (h hb1)))
theorem r_free_from_0 {j2 : Option Cel} (p' : Po) (start' : Int) (h : v_free_from_0 p' start') : RtOk (b_free_from_3 [cD (qPo p'), cD (qI start'), j2]) (fun r x => x = .fro (qI r)) (q_free_from_0 p' start') :=
  RtOk.of (sq_nx (ρ' := [cD (qPo p'), cD (qI start'), cO ((q_roots_from p' start').map qI)]) (st_set (ev_callk (ds := [qPo p']) (es := [qI start']) (r_roots_from p' start' h.1) (av_cons ev_fro rfl av_nil) (av_cons ev_fro rfl av_nil)) rfl rfl)) (r_free_from_1 start' (q_roots_from p' start') h.2)
theorem r_free_from (p' : Po) (start' : Int) (h : v_free_from p' start') : f_free_from [qPo p', qI start'] = some (.ok (.fro (qI (q_free_from p' start')))) :=
  fn_F (e := qI) (r_free_from_0 p' start' h)
noncomputable def q_law_refuse (start' : Int) : Bool :=
  true
def v_law_refuse (start' : Int) : Prop :=
  f_law_refuse [qI start'] = some (.ok (.fro (qB true)))
theorem r_law_refuse (start' : Int) (h : v_law_refuse start') : f_law_refuse [qI start'] = some (.ok (.fro (qB (q_law_refuse start')))) :=
  h
noncomputable def q_law_3 (numbers_here' : List Int) (coefs' : List Int) : (List Int) :=
  setT coefs' (0 : Int) ((gt coefs' (0 : Int)) + (1 : Int))
def v_law_3 (numbers_here' : List Int) (coefs' : List Int) : Prop :=
  (inR coefs' (0 : Int) ∧ inR coefs' (0 : Int))
noncomputable def q_law_4 (numbers_here' : List Int) (coefs' : List Int) : (List Int) :=
  if (decide ((gt coefs' (0 : Int)) ≥ (0 : Int))) then q_law_3 numbers_here' coefs' else coefs'
noncomputable def q_law_10 (numbers_here' : List Int) (coefs' : List Int) (roots' : List Int) (a' : Int) (b' : Int) : Int :=
  (b' + (a' * (10000000 : Int)))
def v_law_10 (numbers_here' : List Int) (coefs' : List Int) (roots' : List Int) (a' : Int) (b' : Int) : Prop :=
  mulOk a' (10000000 : Int) = true
noncomputable def q_law_11 (numbers_here' : List Int) (coefs' : List Int) (roots' : List Int) (k' : Int) (a' : Int) (b' : Int) : Int :=
  if (decide ((Int.fmod (Int.fdiv (gt numbers_here' ((5 : Int) + k')) (243 : Int)) (8 : Int)) = (1 : Int))) then q_law_10 numbers_here' coefs' roots' a' b' else b'
noncomputable def q_law_14 (numbers_here' : List Int) (coefs' : List Int) (roots' : List Int) (a' : Int) (b' : Int) : (List Int) × (List Int) :=
  (coefs', (roots' ++ [(Int.fdiv b' a')]))
def v_law_14 (numbers_here' : List Int) (coefs' : List Int) (roots' : List Int) (a' : Int) (b' : Int) : Prop :=
  (a' ≠ 0 ∧ roots'.length < LINE)
noncomputable def q_law_13 (numbers_here' : List Int) (coefs' : List Int) (roots' : List Int) (a' : Int) (b' : Int) : (List Int) × (List Int) :=
  if (decide ((Int.fmod b' a') = (0 : Int))) then q_law_14 numbers_here' coefs' roots' a' b' else (coefs', roots')
def v_law_13 (numbers_here' : List Int) (coefs' : List Int) (roots' : List Int) (a' : Int) (b' : Int) : Prop :=
  (a' ≠ 0 ∧ ((decide ((Int.fmod b' a') = (0 : Int))) = true → v_law_14 numbers_here' coefs' roots' a' b'))
noncomputable def q_law_12 (numbers_here' : List Int) (coefs' : List Int) (roots' : List Int) (a' : Int) (b' : Int) : (List Int) × (List Int) :=
  q_law_13 numbers_here' (q_law_product coefs' ([(-b'), a'])) roots' a' b'
def v_law_12 (numbers_here' : List Int) (coefs' : List Int) (roots' : List Int) (a' : Int) (b' : Int) : Prop :=
  (v_law_product coefs' ([(-b'), a']) ∧ v_law_13 numbers_here' (q_law_product coefs' ([(-b'), a'])) roots' a' b')
noncomputable def q_law_9 (numbers_here' : List Int) (coefs' : List Int) (roots' : List Int) (k' : Int) (a' : Int) (b' : Int) : (List Int) × (List Int) :=
  q_law_12 numbers_here' coefs' roots' a' (q_law_11 numbers_here' coefs' roots' k' a' b')
def v_law_9 (numbers_here' : List Int) (coefs' : List Int) (roots' : List Int) (k' : Int) (a' : Int) (b' : Int) : Prop :=
  (inR numbers_here' ((5 : Int) + k') ∧ ((decide ((Int.fmod (Int.fdiv (gt numbers_here' ((5 : Int) + k')) (243 : Int)) (8 : Int)) = (1 : Int))) = true → v_law_10 numbers_here' coefs' roots' a' b') ∧ v_law_12 numbers_here' coefs' roots' a' (q_law_11 numbers_here' coefs' roots' k' a' b'))
noncomputable def q_law_8 (numbers_here' : List Int) (coefs' : List Int) (roots' : List Int) (k' : Int) (a' : Int) : (List Int) × (List Int) :=
  q_law_9 numbers_here' coefs' roots' k' a' ((Int.fmod (Int.fdiv (gt numbers_here' ((5 : Int) + k')) (3 : Int)) (81 : Int)) - (40 : Int))
def v_law_8 (numbers_here' : List Int) (coefs' : List Int) (roots' : List Int) (k' : Int) (a' : Int) : Prop :=
  (inR numbers_here' ((5 : Int) + k') ∧ v_law_9 numbers_here' coefs' roots' k' a' ((Int.fmod (Int.fdiv (gt numbers_here' ((5 : Int) + k')) (3 : Int)) (81 : Int)) - (40 : Int)))
noncomputable def q_law_7 (numbers_here' : List Int) (coefs' : List Int) (roots' : List Int) (k' : Int) : (List Int) × (List Int) :=
  q_law_8 numbers_here' coefs' roots' k' ((Int.fmod (gt numbers_here' ((5 : Int) + k')) (3 : Int)) + (1 : Int))
def v_law_7 (numbers_here' : List Int) (coefs' : List Int) (roots' : List Int) (k' : Int) : Prop :=
  (inR numbers_here' ((5 : Int) + k') ∧ v_law_8 numbers_here' coefs' roots' k' ((Int.fmod (gt numbers_here' ((5 : Int) + k')) (3 : Int)) + (1 : Int)))
noncomputable def q_law_15 (numbers_here' : List Int) (coefs' : List Int) (roots' : List Int) : (List Int) × (List Int) :=
  (rngT 0 (Int.fmod (gt numbers_here' (1 : Int)) (5 : Int))).foldl (fun (s4 : (List Int) × (List Int)) (x5 : Int) => q_law_7 numbers_here' s4.1 s4.2 x5) (coefs', roots')
noncomputable def q_law_17 (numbers_here' : List Int) (coefs' : List Int) (roots' : List Int) : (List Int) :=
  q_law_product coefs' ([((Int.fmod (gt numbers_here' (3 : Int)) (9 : Int)) + (1 : Int)), (0 : Int), (1 : Int)])
def v_law_17 (numbers_here' : List Int) (coefs' : List Int) (roots' : List Int) : Prop :=
  (inR numbers_here' (3 : Int) ∧ v_law_product coefs' ([((Int.fmod (gt numbers_here' (3 : Int)) (9 : Int)) + (1 : Int)), (0 : Int), (1 : Int)]))
noncomputable def q_law_18 (numbers_here' : List Int) (coefs' : List Int) (roots' : List Int) : (List Int) :=
  if (decide ((Int.fmod (gt numbers_here' (2 : Int)) (3 : Int)) = (1 : Int))) then q_law_17 numbers_here' coefs' roots' else coefs'
noncomputable def q_law_21 (numbers_here' : List Int) (coefs' : List Int) (roots' : List Int) (start' : Int) : Int :=
  ((gt roots' (0 : Int)) + (Int.fmod (gt numbers_here' (4 : Int)) (2 : Int)))
def v_law_21 (numbers_here' : List Int) (coefs' : List Int) (roots' : List Int) (start' : Int) : Prop :=
  (inR roots' (0 : Int) ∧ inR numbers_here' (4 : Int))
noncomputable def q_law_22 (numbers_here' : List Int) (coefs' : List Int) (roots' : List Int) (start' : Int) : Int :=
  if ((decide ((Int.fmod (Int.fdiv (gt numbers_here' (2 : Int)) (3 : Int)) (4 : Int)) = (1 : Int))) && (decide ((roots'.length : Int) > (0 : Int)))) then q_law_21 numbers_here' coefs' roots' start' else start'
noncomputable def q_law_27  : Bool :=
  false
noncomputable def q_law_31  : Bool :=
  false
noncomputable def q_law_32 (k' : Int) (start' : Int) (p' : Po) (due' : List Int) (found' : List Int) (free' : Int) : Int :=
  ((gt due' k') + (1 : Int))
def v_law_32 (k' : Int) (start' : Int) (p' : Po) (due' : List Int) (found' : List Int) (free' : Int) : Prop :=
  inR due' k'
noncomputable def q_law_30 (k' : Int) (start' : Int) (p' : Po) (due' : List Int) (found' : List Int) (free' : Int) : Fl Int Int Bool :=
  if ((!(q_law_is_integer (gt found' k'))) || (!decide ((gt found' k') = (gt due' k')))) then .rt q_law_31 else .nx (q_law_32 k' start' p' due' found' free')
def v_law_30 (k' : Int) (start' : Int) (p' : Po) (due' : List Int) (found' : List Int) (free' : Int) : Prop :=
  (inR found' k' ∧ ((!(q_law_is_integer (gt found' k'))) = false → (inR found' k' ∧ inR due' k')) ∧ (((!(q_law_is_integer (gt found' k'))) || (!decide ((gt found' k') = (gt due' k')))) = false → v_law_32 k' start' p' due' found' free'))
noncomputable def q_law_33 (start' : Int) (p' : Po) (due' : List Int) (found' : List Int) (free' : Int) : Fl Int Empty Bool :=
  forX (fun (s14 : Int) (x15 : Int) => q_law_30 x15 start' p' due' found' s14) (rngT 0 (due'.length : Int)) free'
noncomputable def q_law_36  : Bool :=
  false
noncomputable def q_law_38 (start' : Int) (free' : Int) (actual' : Int) : Bool :=
  ((q_law_is_integer actual') && ((decide (actual' = free')) && (q_law_refuse start')))
def v_law_38 (start' : Int) (free' : Int) (actual' : Int) : Prop :=
  ((q_law_is_integer actual') = true → ((decide (actual' = free')) = true → v_law_refuse start'))
noncomputable def q_law_37 (start' : Int) (p' : Po) (free' : Int) : Bool :=
  q_law_38 start' free' (q_free_from p' start')
def v_law_37 (start' : Int) (p' : Po) (free' : Int) : Prop :=
  (v_free_from p' start' ∧ v_law_38 start' free' (q_free_from p' start'))
noncomputable def q_law_35 (start' : Int) (p' : Po) (due' : List Int) (free' : Int) : Bool :=
  if (!decide ((q_roots_from p' start') = due')) then q_law_36 else q_law_37 start' p' free'
def v_law_35 (start' : Int) (p' : Po) (due' : List Int) (free' : Int) : Prop :=
  (v_roots_from p' start' ∧ ((!decide ((q_roots_from p' start') = due')) = false → v_law_37 start' p' free'))
noncomputable def q_law_34 (start' : Int) (p' : Po) (due' : List Int) (found' : List Int) (free' : Int) : Bool :=
  q_law_35 start' p' due' free'
def v_law_34 (start' : Int) (p' : Po) (due' : List Int) (found' : List Int) (free' : Int) : Prop :=
  (found'.length < LINE ∧ v_law_35 start' p' due' free')
noncomputable def q_law_29 (start' : Int) (p' : Po) (due' : List Int) (found' : List Int) (free' : Int) : Bool :=
  (q_law_33 start' p' due' found' free').fin fun s17 => q_law_34 start' p' due' found' s17
def v_law_29 (start' : Int) (p' : Po) (due' : List Int) (found' : List Int) (free' : Int) : Prop :=
  (rOk (due'.length : Int) = true ∧ forVX (fun (s14 : Int) (x15 : Int) => v_law_30 x15 start' p' due' found' s14) (fun (s14 : Int) (x15 : Int) => q_law_30 x15 start' p' due' found' s14) (rngT 0 (due'.length : Int)) free' ∧ (∀ s17, q_law_33 start' p' due' found' free' = .nx s17 → v_law_34 start' p' due' found' s17))
noncomputable def q_law_28 (start' : Int) (p' : Po) (due' : List Int) (found' : List Int) : Bool :=
  q_law_29 start' p' due' found' start'
def v_law_28 (start' : Int) (p' : Po) (due' : List Int) (found' : List Int) : Prop :=
  v_law_29 start' p' due' found' start'
noncomputable def q_law_26 (start' : Int) (p' : Po) (due' : List Int) (found' : List Int) : Bool :=
  if ((!true) || (!decide ((found'.length : Int) = (due'.length : Int)))) then q_law_27 else q_law_28 start' p' due' found'
def v_law_26 (start' : Int) (p' : Po) (due' : List Int) (found' : List Int) : Prop :=
  (((!true) || (!decide ((found'.length : Int) = (due'.length : Int)))) = false → v_law_28 start' p' due' found')
noncomputable def q_law_25 (start' : Int) (p' : Po) (due' : List Int) : Bool :=
  q_law_26 start' p' due' (q_roots_from p' start')
def v_law_25 (start' : Int) (p' : Po) (due' : List Int) : Prop :=
  (v_roots_from p' start' ∧ v_law_26 start' p' due' (q_roots_from p' start'))
noncomputable def q_law_24 (roots' : List Int) (start' : Int) (p' : Po) : Bool :=
  q_law_25 start' p' (q_law_sorted_roots roots' start' (1000000000 : Int))
def v_law_24 (roots' : List Int) (start' : Int) (p' : Po) : Prop :=
  (v_law_sorted_roots roots' start' (1000000000 : Int) ∧ v_law_25 start' p' (q_law_sorted_roots roots' start' (1000000000 : Int)))
noncomputable def q_law_23 (numbers_here' : List Int) (coefs' : List Int) (roots' : List Int) (start' : Int) : Bool :=
  q_law_24 roots' start' (q_Poly_init coefs' ((Int.fmod (Int.fdiv (gt numbers_here' (3 : Int)) (9 : Int)) (9 : Int)) + (1 : Int)))
def v_law_23 (numbers_here' : List Int) (coefs' : List Int) (roots' : List Int) (start' : Int) : Prop :=
  (inR numbers_here' (3 : Int) ∧ v_Poly_init coefs' ((Int.fmod (Int.fdiv (gt numbers_here' (3 : Int)) (9 : Int)) (9 : Int)) + (1 : Int)) ∧ v_law_24 roots' start' (q_Poly_init coefs' ((Int.fmod (Int.fdiv (gt numbers_here' (3 : Int)) (9 : Int)) (9 : Int)) + (1 : Int))))
noncomputable def q_law_20 (numbers_here' : List Int) (coefs' : List Int) (roots' : List Int) (start' : Int) : Bool :=
  q_law_23 numbers_here' coefs' roots' (q_law_22 numbers_here' coefs' roots' start')
def v_law_20 (numbers_here' : List Int) (coefs' : List Int) (roots' : List Int) (start' : Int) : Prop :=
  (inR numbers_here' (2 : Int) ∧ (((decide ((Int.fmod (Int.fdiv (gt numbers_here' (2 : Int)) (3 : Int)) (4 : Int)) = (1 : Int))) && (decide ((roots'.length : Int) > (0 : Int)))) = true → v_law_21 numbers_here' coefs' roots' start') ∧ v_law_23 numbers_here' coefs' roots' (q_law_22 numbers_here' coefs' roots' start'))
noncomputable def q_law_19 (numbers_here' : List Int) (coefs' : List Int) (roots' : List Int) : Bool :=
  q_law_20 numbers_here' coefs' roots' ((Int.fmod (gt numbers_here' (4 : Int)) (101 : Int)) - (50 : Int))
def v_law_19 (numbers_here' : List Int) (coefs' : List Int) (roots' : List Int) : Prop :=
  (inR numbers_here' (4 : Int) ∧ v_law_20 numbers_here' coefs' roots' ((Int.fmod (gt numbers_here' (4 : Int)) (101 : Int)) - (50 : Int)))
noncomputable def q_law_16 (numbers_here' : List Int) (coefs' : List Int) (roots' : List Int) : Bool :=
  q_law_19 numbers_here' (q_law_18 numbers_here' coefs' roots') roots'
def v_law_16 (numbers_here' : List Int) (coefs' : List Int) (roots' : List Int) : Prop :=
  (inR numbers_here' (2 : Int) ∧ ((decide ((Int.fmod (gt numbers_here' (2 : Int)) (3 : Int)) = (1 : Int))) = true → v_law_17 numbers_here' coefs' roots') ∧ v_law_19 numbers_here' (q_law_18 numbers_here' coefs' roots') roots')
noncomputable def q_law_6 (numbers_here' : List Int) (coefs' : List Int) (roots' : List Int) : Bool :=
  q_law_16 numbers_here' ((q_law_15 numbers_here' coefs' roots').1) ((q_law_15 numbers_here' coefs' roots').2)
def v_law_6 (numbers_here' : List Int) (coefs' : List Int) (roots' : List Int) : Prop :=
  (inR numbers_here' (1 : Int) ∧ rOk (Int.fmod (gt numbers_here' (1 : Int)) (5 : Int)) = true ∧ forV (fun (s4 : (List Int) × (List Int)) (x5 : Int) => v_law_7 numbers_here' s4.1 s4.2 x5) (fun (s4 : (List Int) × (List Int)) (x5 : Int) => q_law_7 numbers_here' s4.1 s4.2 x5) (rngT 0 (Int.fmod (gt numbers_here' (1 : Int)) (5 : Int))) (coefs', roots') ∧ v_law_16 numbers_here' ((q_law_15 numbers_here' coefs' roots').1) ((q_law_15 numbers_here' coefs' roots').2))
noncomputable def q_law_5 (numbers_here' : List Int) (coefs' : List Int) : Bool :=
  q_law_6 numbers_here' coefs' ([] : List Int)
def v_law_5 (numbers_here' : List Int) (coefs' : List Int) : Prop :=
  v_law_6 numbers_here' coefs' ([] : List Int)
noncomputable def q_law_2 (numbers_here' : List Int) (coefs' : List Int) : Bool :=
  q_law_5 numbers_here' (q_law_4 numbers_here' coefs')
def v_law_2 (numbers_here' : List Int) (coefs' : List Int) : Prop :=
  (inR coefs' (0 : Int) ∧ ((decide ((gt coefs' (0 : Int)) ≥ (0 : Int))) = true → v_law_3 numbers_here' coefs') ∧ v_law_5 numbers_here' (q_law_4 numbers_here' coefs'))
noncomputable def q_law_1 (numbers_here' : List Int) : Bool :=
  q_law_2 numbers_here' ([((Int.fmod (gt numbers_here' (0 : Int)) (12 : Int)) - (6 : Int))])
def v_law_1 (numbers_here' : List Int) : Prop :=
  (inR numbers_here' (0 : Int) ∧ v_law_2 numbers_here' ([((Int.fmod (gt numbers_here' (0 : Int)) (12 : Int)) - (6 : Int))]))
noncomputable def q_law_0 (script' : List Int) : Bool :=
  q_law_1 (q_law_numbers script' (10 : Int))
def v_law_0 (script' : List Int) : Prop :=
  (v_law_numbers script' (10 : Int) ∧ v_law_1 (q_law_numbers script' (10 : Int)))
noncomputable def q_law (script' : List Int) : Bool :=
  q_law_0 script'
def v_law (script' : List Int) : Prop :=
  v_law_0 script'
theorem r_law_3 {j0 : Option Cel} {j3 : Option Cel} {j4 : Option Cel} {j5 : Option Cel} {j6 : Option Cel} {j7 : Option Cel} {j8 : Option Cel} {j9 : Option Cel} {j10 : Option Cel} {j11 : Option Cel} {j12 : Option Cel} (numbers_here' : List Int) (coefs' : List Int) (h : v_law_3 numbers_here' coefs') : NxOk (b_law_0 [j0, cO (numbers_here'.map qI), cO (coefs'.map qI), j3, j4, j5, j6, j7, j8, j9, j10, j11, j12]) (fun (s : (List Int)) w => ∃ (j0 : Option Cel) (j3 : Option Cel) (j4 : Option Cel) (j5 : Option Cel) (j6 : Option Cel) (j7 : Option Cel) (j8 : Option Cel) (j9 : Option Cel) (j10 : Option Cel) (j11 : Option Cel) (j12 : Option Cel), w = [j0, cO (numbers_here'.map qI), cO (s.map qI), j3, j4, j5, j6, j7, j8, j9, j10, j11, j12]) (q_law_3 numbers_here' coefs') :=
  nx_st (ρ' := [_, cO (numbers_here'.map qI), cO ((setT coefs' (0 : Int) ((gt coefs' (0 : Int)) + (1 : Int))).map qI), _, _, _, _, _, _, _, _, _, _]) (st_ix (e := qI) rfl (ev_e2 (ev_e2 ev_own ev_c (g_ix (k := .bor) (e := qI) h.1)) ev_c rfl) rfl ev_c h.2 rfl) ⟨_, _, _, _, _, _, _, _, _, _, _, rfl⟩
theorem r_law_10 {j0 : Option Cel} {j4 : Option Cel} {j7 : Option Cel} {j8 : Option Cel} {j9 : Option Cel} {j10 : Option Cel} {j11 : Option Cel} {j12 : Option Cel} (numbers_here' : List Int) (coefs' : List Int) (roots' : List Int) (a' : Int) (b' : Int) (h : v_law_10 numbers_here' coefs' roots' a' b') : NxOk (b_law_1 [j0, cO (numbers_here'.map qI), cO (coefs'.map qI), cO (roots'.map qI), j4, cD (qI a'), cD (qI b'), j7, j8, j9, j10, j11, j12]) (fun (s : Int) w => ∃ (j0 : Option Cel) (j4 : Option Cel) (j7 : Option Cel) (j8 : Option Cel) (j9 : Option Cel) (j10 : Option Cel) (j11 : Option Cel) (j12 : Option Cel), w = [j0, cO (numbers_here'.map qI), cO (coefs'.map qI), cO (roots'.map qI), j4, cD (qI a'), cD (qI s), j7, j8, j9, j10, j11, j12]) (q_law_10 numbers_here' coefs' roots' a' b') :=
  nx_st (ρ' := [_, cO (numbers_here'.map qI), cO (coefs'.map qI), cO (roots'.map qI), _, cD (qI a'), cD (qI (b' + (a' * (10000000 : Int)))), _, _, _, _, _, _]) (st_set (ev_e2 ev_fro (ev_e2 ev_fro (ev_e2 ev_c ev_c (g_powl (k := 10000000) (by decide) (by decide +kernel))) (g_mul h)) rfl) rfl rfl) ⟨_, _, _, _, _, _, _, _, rfl⟩
theorem r_law_14 {j0 : Option Cel} {j4 : Option Cel} {j7 : Option Cel} {j8 : Option Cel} {j9 : Option Cel} {j10 : Option Cel} {j11 : Option Cel} {j12 : Option Cel} (numbers_here' : List Int) (coefs' : List Int) (roots' : List Int) (a' : Int) (b' : Int) (h : v_law_14 numbers_here' coefs' roots' a' b') : NxOk (b_law_2 [j0, cO (numbers_here'.map qI), cO (coefs'.map qI), cO (roots'.map qI), j4, cD (qI a'), cD (qI b'), j7, j8, j9, j10, j11, j12]) (fun (s : (List Int) × (List Int)) w => ∃ (j0 : Option Cel) (j4 : Option Cel) (j5 : Option Cel) (j6 : Option Cel) (j7 : Option Cel) (j8 : Option Cel) (j9 : Option Cel) (j10 : Option Cel) (j11 : Option Cel) (j12 : Option Cel), w = [j0, cO (numbers_here'.map qI), cO (s.1.map qI), cO (s.2.map qI), j4, j5, j6, j7, j8, j9, j10, j11, j12]) (q_law_14 numbers_here' coefs' roots' a' b') :=
  nx_st (ρ' := [_, cO (numbers_here'.map qI), cO (coefs'.map qI), cO ((roots' ++ [(Int.fdiv b' a')]).map qI), _, cD (qI a'), cD (qI b'), _, _, _, _, _, _]) (st_appT (e := qI) rfl (ev_e2 ev_fro ev_fro (g_div h.1)) rfl h.2 rfl) ⟨_, _, _, _, _, _, _, _, _, _, rfl⟩
theorem r_law_13 {j0 : Option Cel} {j4 : Option Cel} {j7 : Option Cel} {j8 : Option Cel} {j9 : Option Cel} {j10 : Option Cel} {j11 : Option Cel} {j12 : Option Cel} (numbers_here' : List Int) (coefs' : List Int) (roots' : List Int) (a' : Int) (b' : Int) (h : v_law_13 numbers_here' coefs' roots' a' b') : NxOk (b_law_3 [j0, cO (numbers_here'.map qI), cO (coefs'.map qI), cO (roots'.map qI), j4, cD (qI a'), cD (qI b'), j7, j8, j9, j10, j11, j12]) (fun (s : (List Int) × (List Int)) w => ∃ (j0 : Option Cel) (j4 : Option Cel) (j5 : Option Cel) (j6 : Option Cel) (j7 : Option Cel) (j8 : Option Cel) (j9 : Option Cel) (j10 : Option Cel) (j11 : Option Cel) (j12 : Option Cel), w = [j0, cO (numbers_here'.map qI), cO (s.1.map qI), cO (s.2.map qI), j4, j5, j6, j7, j8, j9, j10, j11, j12]) (q_law_13 numbers_here' coefs' roots' a' b') :=
  nx_if (tv_b (ev_e2 (ev_e2 ev_fro ev_fro (g_mod h.1)) ev_c g_eqI)) (fun hb3 => r_law_14 numbers_here' coefs' roots' a' b' (h.2 hb3)) (fun hb3 => nx_next ⟨_, _, _, _, _, _, _, _, _, _, rfl⟩)
theorem r_law_12 {j0 : Option Cel} {j4 : Option Cel} {j7 : Option Cel} {j8 : Option Cel} {j9 : Option Cel} {j10 : Option Cel} {j11 : Option Cel} {j12 : Option Cel} (numbers_here' : List Int) (coefs' : List Int) (roots' : List Int) (a' : Int) (b' : Int) (h : v_law_12 numbers_here' coefs' roots' a' b') : NxOk (b_law_4 [j0, cO (numbers_here'.map qI), cO (coefs'.map qI), cO (roots'.map qI), j4, cD (qI a'), cD (qI b'), j7, j8, j9, j10, j11, j12]) (fun (s : (List Int) × (List Int)) w => ∃ (j0 : Option Cel) (j4 : Option Cel) (j5 : Option Cel) (j6 : Option Cel) (j7 : Option Cel) (j8 : Option Cel) (j9 : Option Cel) (j10 : Option Cel) (j11 : Option Cel) (j12 : Option Cel), w = [j0, cO (numbers_here'.map qI), cO (s.1.map qI), cO (s.2.map qI), j4, j5, j6, j7, j8, j9, j10, j11, j12]) (q_law_12 numbers_here' coefs' roots' a' b') :=
  NxOk.of (sq_nx (ρ' := [_, cO (numbers_here'.map qI), cO ((q_law_product coefs' ([(-b'), a'])).map qI), cO (roots'.map qI), _, cD (qI a'), cD (qI b'), _, _, _, _, _, _]) (fz_own (ρ' := [_, cO (numbers_here'.map qI), cD (qL qI coefs'), cO (roots'.map qI), _, cD (qI a'), cD (qI b'), _, _, _, _, _, _]) rfl rfl (st_set (ev_call (r_law_product coefs' ([(-b'), a']) h.1) (av_cons ev_fro rfl (av_cons (ev_lst (av_cons (ev_e1 ev_fro rfl) rfl (av_cons ev_fro rfl av_nil)) (Nat.le_of_ble_eq_true rfl)) rfl av_nil))) rfl rfl))) (r_law_13 numbers_here' (q_law_product coefs' ([(-b'), a'])) roots' a' b' h.2)
theorem r_law_9 {j0 : Option Cel} {j7 : Option Cel} {j8 : Option Cel} {j9 : Option Cel} {j10 : Option Cel} {j11 : Option Cel} {j12 : Option Cel} (numbers_here' : List Int) (coefs' : List Int) (roots' : List Int) (k' : Int) (a' : Int) (b' : Int) (h : v_law_9 numbers_here' coefs' roots' k' a' b') : NxOk (b_law_5 [j0, cO (numbers_here'.map qI), cO (coefs'.map qI), cO (roots'.map qI), cD (qI k'), cD (qI a'), cD (qI b'), j7, j8, j9, j10, j11, j12]) (fun (s : (List Int) × (List Int)) w => ∃ (j0 : Option Cel) (j4 : Option Cel) (j5 : Option Cel) (j6 : Option Cel) (j7 : Option Cel) (j8 : Option Cel) (j9 : Option Cel) (j10 : Option Cel) (j11 : Option Cel) (j12 : Option Cel), w = [j0, cO (numbers_here'.map qI), cO (s.1.map qI), cO (s.2.map qI), j4, j5, j6, j7, j8, j9, j10, j11, j12]) (q_law_9 numbers_here' coefs' roots' k' a' b') :=
  sq_NN (E := (fun (s : Int) w => ∃ (j0 : Option Cel) (j4 : Option Cel) (j7 : Option Cel) (j8 : Option Cel) (j9 : Option Cel) (j10 : Option Cel) (j11 : Option Cel) (j12 : Option Cel), w = [j0, cO (numbers_here'.map qI), cO (coefs'.map qI), cO (roots'.map qI), j4, cD (qI a'), cD (qI s), j7, j8, j9, j10, j11, j12])) (q := q_law_11 numbers_here' coefs' roots' k' a' b') (nx_if (tv_b (ev_e2 (ev_e2 (ev_e2 (ev_e2 ev_own (ev_e2 ev_c ev_fro rfl) (g_ix (k := .bor) (e := qI) h.1)) ev_c (g_div (by decide))) ev_c (g_mod (by decide))) ev_c g_eqI)) (fun hb2 => r_law_10 numbers_here' coefs' roots' a' b' (h.2.1 hb2)) (fun hb2 => nx_next ⟨_, _, _, _, _, _, _, _, rfl⟩)) (fun w hw => by obtain ⟨_, _, _, _, _, _, _, _, rfl⟩ := hw; exact r_law_12 numbers_here' coefs' roots' a' (q_law_11 numbers_here' coefs' roots' k' a' b') h.2.2)
theorem r_law_8 {j0 : Option Cel} {j6 : Option Cel} {j7 : Option Cel} {j8 : Option Cel} {j9 : Option Cel} {j10 : Option Cel} {j11 : Option Cel} {j12 : Option Cel} (numbers_here' : List Int) (coefs' : List Int) (roots' : List Int) (k' : Int) (a' : Int) (h : v_law_8 numbers_here' coefs' roots' k' a') : NxOk (b_law_6 [j0, cO (numbers_here'.map qI), cO (coefs'.map qI), cO (roots'.map qI), cD (qI k'), cD (qI a'), j6, j7, j8, j9, j10, j11, j12]) (fun (s : (List Int) × (List Int)) w => ∃ (j0 : Option Cel) (j4 : Option Cel) (j5 : Option Cel) (j6 : Option Cel) (j7 : Option Cel) (j8 : Option Cel) (j9 : Option Cel) (j10 : Option Cel) (j11 : Option Cel) (j12 : Option Cel), w = [j0, cO (numbers_here'.map qI), cO (s.1.map qI), cO (s.2.map qI), j4, j5, j6, j7, j8, j9, j10, j11, j12]) (q_law_8 numbers_here' coefs' roots' k' a') :=
  NxOk.of (sq_nx (ρ' := [_, cO (numbers_here'.map qI), cO (coefs'.map qI), cO (roots'.map qI), cD (qI k'), cD (qI a'), cD (qI ((Int.fmod (Int.fdiv (gt numbers_here' ((5 : Int) + k')) (3 : Int)) (81 : Int)) - (40 : Int))), _, _, _, _, _, _]) (st_set (ev_e2 (ev_e2 (ev_e2 (ev_e2 ev_own (ev_e2 ev_c ev_fro rfl) (g_ix (k := .bor) (e := qI) h.1)) ev_c (g_div (by decide))) ev_c (g_mod (by decide))) ev_c rfl) rfl rfl)) (r_law_9 numbers_here' coefs' roots' k' a' ((Int.fmod (Int.fdiv (gt numbers_here' ((5 : Int) + k')) (3 : Int)) (81 : Int)) - (40 : Int)) h.2)
theorem r_law_7 {j0 : Option Cel} {j5 : Option Cel} {j6 : Option Cel} {j7 : Option Cel} {j8 : Option Cel} {j9 : Option Cel} {j10 : Option Cel} {j11 : Option Cel} {j12 : Option Cel} (numbers_here' : List Int) (coefs' : List Int) (roots' : List Int) (k' : Int) (h : v_law_7 numbers_here' coefs' roots' k') : NxOk (b_law_7 [j0, cO (numbers_here'.map qI), cO (coefs'.map qI), cO (roots'.map qI), cD (qI k'), j5, j6, j7, j8, j9, j10, j11, j12]) (fun (s : (List Int) × (List Int)) w => ∃ (j0 : Option Cel) (j4 : Option Cel) (j5 : Option Cel) (j6 : Option Cel) (j7 : Option Cel) (j8 : Option Cel) (j9 : Option Cel) (j10 : Option Cel) (j11 : Option Cel) (j12 : Option Cel), w = [j0, cO (numbers_here'.map qI), cO (s.1.map qI), cO (s.2.map qI), j4, j5, j6, j7, j8, j9, j10, j11, j12]) (q_law_7 numbers_here' coefs' roots' k') :=
  NxOk.of (sq_nx (ρ' := [_, cO (numbers_here'.map qI), cO (coefs'.map qI), cO (roots'.map qI), cD (qI k'), cD (qI ((Int.fmod (gt numbers_here' ((5 : Int) + k')) (3 : Int)) + (1 : Int))), _, _, _, _, _, _, _]) (st_set (ev_e2 (ev_e2 (ev_e2 ev_own (ev_e2 ev_c ev_fro rfl) (g_ix (k := .bor) (e := qI) h.1)) ev_c (g_mod (by decide))) ev_c rfl) rfl rfl)) (r_law_8 numbers_here' coefs' roots' k' ((Int.fmod (gt numbers_here' ((5 : Int) + k')) (3 : Int)) + (1 : Int)) h.2)
theorem r_law_17 {j0 : Option Cel} {j4 : Option Cel} {j5 : Option Cel} {j6 : Option Cel} {j7 : Option Cel} {j8 : Option Cel} {j9 : Option Cel} {j10 : Option Cel} {j11 : Option Cel} {j12 : Option Cel} (numbers_here' : List Int) (coefs' : List Int) (roots' : List Int) (h : v_law_17 numbers_here' coefs' roots') : NxOk (b_law_8 [j0, cO (numbers_here'.map qI), cO (coefs'.map qI), cO (roots'.map qI), j4, j5, j6, j7, j8, j9, j10, j11, j12]) (fun (s : (List Int)) w => ∃ (j0 : Option Cel) (j4 : Option Cel) (j5 : Option Cel) (j6 : Option Cel) (j7 : Option Cel) (j8 : Option Cel) (j9 : Option Cel) (j10 : Option Cel) (j11 : Option Cel) (j12 : Option Cel), w = [j0, cO (numbers_here'.map qI), cO (s.map qI), cO (roots'.map qI), j4, j5, j6, j7, j8, j9, j10, j11, j12]) (q_law_17 numbers_here' coefs' roots') :=
  nx_st (ρ' := [_, cO (numbers_here'.map qI), cO ((q_law_product coefs' ([((Int.fmod (gt numbers_here' (3 : Int)) (9 : Int)) + (1 : Int)), (0 : Int), (1 : Int)])).map qI), cO (roots'.map qI), _, _, _, _, _, _, _, _, _]) (fz_own (ρ' := [_, cO (numbers_here'.map qI), cD (qL qI coefs'), cO (roots'.map qI), _, _, _, _, _, _, _, _, _]) rfl rfl (st_set (ev_call (r_law_product coefs' ([((Int.fmod (gt numbers_here' (3 : Int)) (9 : Int)) + (1 : Int)), (0 : Int), (1 : Int)]) h.2) (av_cons ev_fro rfl (av_cons (ev_lst (av_cons (ev_e2 (ev_e2 (ev_e2 ev_own ev_c (g_ix (k := .bor) (e := qI) h.1)) ev_c (g_mod (by decide))) ev_c rfl) rfl (av_cons ev_c rfl (av_cons ev_c rfl av_nil))) (Nat.le_of_ble_eq_true rfl)) rfl av_nil))) rfl rfl)) ⟨_, _, _, _, _, _, _, _, _, _, rfl⟩
theorem r_law_21 {j0 : Option Cel} {j4 : Option Cel} {j5 : Option Cel} {j6 : Option Cel} {j8 : Option Cel} {j9 : Option Cel} {j10 : Option Cel} {j11 : Option Cel} {j12 : Option Cel} (numbers_here' : List Int) (coefs' : List Int) (roots' : List Int) (start' : Int) (h : v_law_21 numbers_here' coefs' roots' start') : NxOk (b_law_9 [j0, cO (numbers_here'.map qI), cO (coefs'.map qI), cO (roots'.map qI), j4, j5, j6, cD (qI start'), j8, j9, j10, j11, j12]) (fun (s : Int) w => ∃ (j0 : Option Cel) (j4 : Option Cel) (j5 : Option Cel) (j6 : Option Cel) (j8 : Option Cel) (j9 : Option Cel) (j10 : Option Cel) (j11 : Option Cel) (j12 : Option Cel), w = [j0, cO (numbers_here'.map qI), cO (coefs'.map qI), cO (roots'.map qI), j4, j5, j6, cD (qI s), j8, j9, j10, j11, j12]) (q_law_21 numbers_here' coefs' roots' start') :=
  nx_st (ρ' := [_, cO (numbers_here'.map qI), cO (coefs'.map qI), cO (roots'.map qI), _, _, _, cD (qI ((gt roots' (0 : Int)) + (Int.fmod (gt numbers_here' (4 : Int)) (2 : Int)))), _, _, _, _, _]) (st_set (ev_e2 (ev_e2 ev_own ev_c (g_ix (k := .bor) (e := qI) h.1)) (ev_e2 (ev_e2 ev_own ev_c (g_ix (k := .bor) (e := qI) h.2)) ev_c (g_mod (by decide))) rfl) rfl rfl) ⟨_, _, _, _, _, _, _, _, _, rfl⟩
theorem r_law_27 {j0 : Option Cel} {j1 : Option Cel} {j2 : Option Cel} {j3 : Option Cel} {j4 : Option Cel} {j5 : Option Cel} {j6 : Option Cel} {j7 : Option Cel} {j8 : Option Cel} {j9 : Option Cel} {j10 : Option Cel} {j11 : Option Cel} {j12 : Option Cel}  : RtOk (b_law_10 [j0, j1, j2, j3, j4, j5, j6, j7, j8, j9, j10, j11, j12]) (fun r x => x = .fro (qB r)) (q_law_27) :=
  rt_ret ev_c rfl (by simp)
theorem r_law_31 {j0 : Option Cel} {j1 : Option Cel} {j2 : Option Cel} {j3 : Option Cel} {j4 : Option Cel} {j5 : Option Cel} {j6 : Option Cel} {j7 : Option Cel} {j8 : Option Cel} {j9 : Option Cel} {j10 : Option Cel} {j11 : Option Cel} {j12 : Option Cel}  : RtOk (b_law_11 [j0, j1, j2, j3, j4, j5, j6, j7, j8, j9, j10, j11, j12]) (fun r x => x = .fro (qB r)) (q_law_31) :=
  rt_ret ev_c rfl (by simp)
theorem r_law_32 {j0 : Option Cel} {j1 : Option Cel} {j2 : Option Cel} {j3 : Option Cel} {j5 : Option Cel} {j6 : Option Cel} {j12 : Option Cel} (k' : Int) (start' : Int) (p' : Po) (due' : List Int) (found' : List Int) (free' : Int) (h : v_law_32 k' start' p' due' found' free') : NxOk (b_law_12 [j0, j1, j2, j3, cD (qI k'), j5, j6, cD (qI start'), cD (qPo p'), cO (due'.map qI), cO (found'.map qI), cD (qI free'), j12]) (fun (s : Int) w => ∃ (j0 : Option Cel) (j1 : Option Cel) (j2 : Option Cel) (j3 : Option Cel) (j4 : Option Cel) (j5 : Option Cel) (j6 : Option Cel) (j12 : Option Cel), w = [j0, j1, j2, j3, j4, j5, j6, cD (qI start'), cD (qPo p'), cO (due'.map qI), cO (found'.map qI), cD (qI s), j12]) (q_law_32 k' start' p' due' found' free') :=
  nx_st (ρ' := [_, _, _, _, cD (qI k'), _, _, cD (qI start'), cD (qPo p'), cO (due'.map qI), cO (found'.map qI), cD (qI ((gt due' k') + (1 : Int))), _]) (st_set (ev_e2 (ev_e2 ev_own ev_fro (g_ix (k := .bor) (e := qI) h)) ev_c rfl) rfl rfl) ⟨_, _, _, _, _, _, _, _, rfl⟩
theorem r_law_30 {j0 : Option Cel} {j1 : Option Cel} {j2 : Option Cel} {j3 : Option Cel} {j5 : Option Cel} {j6 : Option Cel} {j12 : Option Cel} (k' : Int) (start' : Int) (p' : Po) (due' : List Int) (found' : List Int) (free' : Int) (h : v_law_30 k' start' p' due' found' free') : FlOk (b_law_13 [j0, j1, j2, j3, cD (qI k'), j5, j6, cD (qI start'), cD (qPo p'), cO (due'.map qI), cO (found'.map qI), cD (qI free'), j12]) (fun (s : Int) w => ∃ (j0 : Option Cel) (j1 : Option Cel) (j2 : Option Cel) (j3 : Option Cel) (j4 : Option Cel) (j5 : Option Cel) (j6 : Option Cel) (j12 : Option Cel), w = [j0, j1, j2, j3, j4, j5, j6, cD (qI start'), cD (qPo p'), cO (due'.map qI), cO (found'.map qI), cD (qI s), j12]) (fun (s : Int) w => ∃ (j0 : Option Cel) (j1 : Option Cel) (j2 : Option Cel) (j3 : Option Cel) (j4 : Option Cel) (j5 : Option Cel) (j6 : Option Cel) (j12 : Option Cel), w = [j0, j1, j2, j3, j4, j5, j6, cD (qI start'), cD (qPo p'), cO (due'.map qI), cO (found'.map qI), cD (qI s), j12]) (fun r x => x = .fro (qB r)) (q_law_30 k' start' p' due' found' free') :=
  fl_sif (tv_or (tv_not (tv_tru (ev_call (r_law_is_integer (gt found' k')) (av_cons (ev_e2 ev_own ev_fro (g_ix (k := .bor) (e := qI) h.1)) rfl av_nil)) rfl)) (fun hb12 => tv_b (ev_e2 (ev_e2 ev_own ev_fro (g_ix (k := .bor) (e := qI) (h.2.1 hb12).1)) (ev_e2 ev_own ev_fro (g_ix (k := .bor) (e := qI) (h.2.1 hb12).2)) g_neI))) (fun hb13 => RtOk.fl (rt_seq r_law_31)) (fun hb13 => NxOk.fl (NxOk.of (sq_nx rfl) (r_law_32 k' start' p' due' found' free' (h.2.2 hb13))))
theorem r_law_36 {j0 : Option Cel} {j1 : Option Cel} {j2 : Option Cel} {j3 : Option Cel} {j4 : Option Cel} {j5 : Option Cel} {j6 : Option Cel} {j7 : Option Cel} {j8 : Option Cel} {j9 : Option Cel} {j10 : Option Cel} {j11 : Option Cel} {j12 : Option Cel}  : RtOk (b_law_14 [j0, j1, j2, j3, j4, j5, j6, j7, j8, j9, j10, j11, j12]) (fun r x => x = .fro (qB r)) (q_law_36) :=
  rt_ret ev_c rfl (by simp)
theorem r_law_38 {j0 : Option Cel} {j1 : Option Cel} {j2 : Option Cel} {j3 : Option Cel} {j4 : Option Cel} {j5 : Option Cel} {j6 : Option Cel} {j8 : Option Cel} {j9 : Option Cel} {j10 : Option Cel} (start' : Int) (free' : Int) (actual' : Int) (h : v_law_38 start' free' actual') : RtOk (b_law_15 [j0, j1, j2, j3, j4, j5, j6, cD (qI start'), j8, j9, j10, cD (qI free'), cD (qI actual')]) (fun r x => x = .fro (qB r)) (q_law_38 start' free' actual') :=
  rt_ret (ev_and (ev_call (r_law_is_integer actual') (av_cons ev_fro rfl av_nil)) (fun hb19 => ev_and (ev_e2 ev_fro ev_fro g_eqI) (fun hb20 => ev_call (r_law_refuse start' ((h hb19) hb20)) (av_cons ev_fro rfl av_nil)))) rfl (by simp)
theorem r_law_37 {j0 : Option Cel} {j1 : Option Cel} {j2 : Option Cel} {j3 : Option Cel} {j4 : Option Cel} {j5 : Option Cel} {j6 : Option Cel} {j9 : Option Cel} {j10 : Option Cel} {j12 : Option Cel} (start' : Int) (p' : Po) (free' : Int) (h : v_law_37 start' p' free') : RtOk (b_law_16 [j0, j1, j2, j3, j4, j5, j6, cD (qI start'), cD (qPo p'), j9, j10, cD (qI free'), j12]) (fun r x => x = .fro (qB r)) (q_law_37 start' p' free') :=
  RtOk.of (sq_nx (ρ' := [_, _, _, _, _, _, _, cD (qI start'), cD (qPo p'), _, _, cD (qI free'), cD (qI (q_free_from p' start'))]) (st_set (ev_callk (ds := [qPo p']) (es := [qI start']) (r_free_from p' start' h.1) (av_cons ev_fro rfl av_nil) (av_cons ev_fro rfl av_nil)) rfl rfl)) (r_law_38 start' free' (q_free_from p' start') h.2)
theorem r_law_35 {j0 : Option Cel} {j1 : Option Cel} {j2 : Option Cel} {j3 : Option Cel} {j4 : Option Cel} {j5 : Option Cel} {j6 : Option Cel} {j10 : Option Cel} {j12 : Option Cel} (start' : Int) (p' : Po) (due' : List Int) (free' : Int) (h : v_law_35 start' p' due' free') : RtOk (b_law_17 [j0, j1, j2, j3, j4, j5, j6, cD (qI start'), cD (qPo p'), cO (due'.map qI), j10, cD (qI free'), j12]) (fun r x => x = .fro (qB r)) (q_law_35 start' p' due' free') :=
  rt_sif (tv_b (ev_e2 (ev_callk (ds := [qPo p']) (es := [qI start']) (r_roots_from p' start' h.1) (av_cons ev_fro rfl av_nil) (av_cons ev_fro rfl av_nil)) ev_own (g_neK (k := .own) (l := .bor) (e := qI)))) (fun hb18 => rt_seq r_law_36) (fun hb18 => RtOk.of (sq_nx rfl) (r_law_37 start' p' free' (h.2 hb18)))
theorem r_law_34 {j0 : Option Cel} {j1 : Option Cel} {j2 : Option Cel} {j3 : Option Cel} {j4 : Option Cel} {j5 : Option Cel} {j6 : Option Cel} {j12 : Option Cel} (start' : Int) (p' : Po) (due' : List Int) (found' : List Int) (free' : Int) (h : v_law_34 start' p' due' found' free') : RtOk (b_law_18 [j0, j1, j2, j3, j4, j5, j6, cD (qI start'), cD (qPo p'), cO (due'.map qI), cO (found'.map qI), cD (qI free'), j12]) (fun r x => x = .fro (qB r)) (q_law_34 start' p' due' found' free') :=
  RtOk.of (sq_nx (ρ' := [_, _, _, _, _, _, _, cD (qI start'), cD (qPo p'), cO (due'.map qI), cO ((found' ++ [start']).map qI), cD (qI free'), _]) (st_appT (e := qI) rfl ev_fro rfl h.1 rfl)) (r_law_35 start' p' due' free' h.2)
theorem r_law_29 {j0 : Option Cel} {j1 : Option Cel} {j2 : Option Cel} {j3 : Option Cel} {j4 : Option Cel} {j5 : Option Cel} {j6 : Option Cel} {j12 : Option Cel} (start' : Int) (p' : Po) (due' : List Int) (found' : List Int) (free' : Int) (h : v_law_29 start' p' due' found' free') : RtOk (b_law_19 [j0, j1, j2, j3, j4, j5, j6, cD (qI start'), cD (qPo p'), cO (due'.map qI), cO (found'.map qI), cD (qI free'), j12]) (fun r x => x = .fro (qB r)) (q_law_29 start' p' due' found' free') :=
  sq_XR (E := (fun (s : Int) w => ∃ (j0 : Option Cel) (j1 : Option Cel) (j2 : Option Cel) (j3 : Option Cel) (j4 : Option Cel) (j5 : Option Cel) (j6 : Option Cel) (j12 : Option Cel), w = [j0, j1, j2, j3, j4, j5, j6, cD (qI start'), cD (qPo p'), cO (due'.map qI), cO (found'.map qI), cD (qI s), j12])) (B0 := (fun _ _ => False)) (q := q_law_33 start' p' due' found' free') (FlOk.of (sfor_eq (iv_r1 (ev_e1 ev_own (g_len (k := .bor))) h.1)) (for_X (E := (fun (s : Int) w => ∃ (j0 : Option Cel) (j1 : Option Cel) (j2 : Option Cel) (j3 : Option Cel) (j4 : Option Cel) (j5 : Option Cel) (j6 : Option Cel) (j12 : Option Cel), w = [j0, j1, j2, j3, j4, j5, j6, cD (qI start'), cD (qPo p'), cO (due'.map qI), cO (found'.map qI), cD (qI s), j12])) (V := fun (s14 : Int) (x15 : Int) => v_law_30 x15 start' p' due' found' s14) (f := fun (s14 : Int) (x15 : Int) => q_law_30 x15 start' p' due' found' s14) (e := qI) (fun s14 x15 ρ hρ hv16 => by obtain ⟨_, _, _, _, _, _, _, _, rfl⟩ := hρ; exact ⟨_, rfl, r_law_30 x15 start' p' due' found' s14 hv16⟩) (rngT 0 (due'.length : Int)) free' _ ⟨_, _, _, _, _, _, _, _, rfl⟩ h.2.1)) (fun s17 w hw hs21 => by obtain ⟨_, _, _, _, _, _, _, _, rfl⟩ := hw; exact r_law_34 start' p' due' found' s17 (h.2.2 s17 hs21))
theorem r_law_28 {j0 : Option Cel} {j1 : Option Cel} {j2 : Option Cel} {j3 : Option Cel} {j4 : Option Cel} {j5 : Option Cel} {j6 : Option Cel} {j11 : Option Cel} {j12 : Option Cel} (start' : Int) (p' : Po) (due' : List Int) (found' : List Int) (h : v_law_28 start' p' due' found') : RtOk (b_law_20 [j0, j1, j2, j3, j4, j5, j6, cD (qI start'), cD (qPo p'), cO (due'.map qI), cO (found'.map qI), j11, j12]) (fun r x => x = .fro (qB r)) (q_law_28 start' p' due' found') :=
  RtOk.of (sq_nx (ρ' := [_, _, _, _, _, _, _, cD (qI start'), cD (qPo p'), cO (due'.map qI), cO (found'.map qI), cD (qI start'), _]) (st_set ev_fro rfl rfl)) (r_law_29 start' p' due' found' start' h)
theorem r_law_26 {j0 : Option Cel} {j1 : Option Cel} {j2 : Option Cel} {j3 : Option Cel} {j4 : Option Cel} {j5 : Option Cel} {j6 : Option Cel} {j11 : Option Cel} {j12 : Option Cel} (start' : Int) (p' : Po) (due' : List Int) (found' : List Int) (h : v_law_26 start' p' due' found') : RtOk (b_law_21 [j0, j1, j2, j3, j4, j5, j6, cD (qI start'), cD (qPo p'), cO (due'.map qI), cO (found'.map qI), j11, j12]) (fun r x => x = .fro (qB r)) (q_law_26 start' p' due' found') :=
  rt_sif (tv_bor (ρ' := [_, _, _, _, _, _, _, cD (qI start'), cD (qPo p'), cO (due'.map qI), cD (qL qI found'), _, _]) rfl rfl (tv_or (tv_not (tv_tru (ev_e1 ev_fro rfl) rfl)) (fun hb10 => tv_b (ev_e2 (ev_e1 ev_fro (g_len (k := .fro))) (ev_e1 ev_own (g_len (k := .bor))) g_neI)))) (fun hb11 => rt_seq r_law_27) (fun hb11 => RtOk.of (sq_nx rfl) (r_law_28 start' p' due' found' (h hb11)))
theorem r_law_25 {j0 : Option Cel} {j1 : Option Cel} {j2 : Option Cel} {j3 : Option Cel} {j4 : Option Cel} {j5 : Option Cel} {j6 : Option Cel} {j10 : Option Cel} {j11 : Option Cel} {j12 : Option Cel} (start' : Int) (p' : Po) (due' : List Int) (h : v_law_25 start' p' due') : RtOk (b_law_22 [j0, j1, j2, j3, j4, j5, j6, cD (qI start'), cD (qPo p'), cO (due'.map qI), j10, j11, j12]) (fun r x => x = .fro (qB r)) (q_law_25 start' p' due') :=
  RtOk.of (sq_nx (ρ' := [_, _, _, _, _, _, _, cD (qI start'), cD (qPo p'), cO (due'.map qI), cO ((q_roots_from p' start').map qI), _, _]) (st_set (ev_callk (ds := [qPo p']) (es := [qI start']) (r_roots_from p' start' h.1) (av_cons ev_fro rfl av_nil) (av_cons ev_fro rfl av_nil)) rfl rfl)) (r_law_26 start' p' due' (q_roots_from p' start') h.2)
theorem r_law_24 {j0 : Option Cel} {j1 : Option Cel} {j2 : Option Cel} {j4 : Option Cel} {j5 : Option Cel} {j6 : Option Cel} {j9 : Option Cel} {j10 : Option Cel} {j11 : Option Cel} {j12 : Option Cel} (roots' : List Int) (start' : Int) (p' : Po) (h : v_law_24 roots' start' p') : RtOk (b_law_23 [j0, j1, j2, cO (roots'.map qI), j4, j5, j6, cD (qI start'), cD (qPo p'), j9, j10, j11, j12]) (fun r x => x = .fro (qB r)) (q_law_24 roots' start' p') :=
  RtOk.of (sq_nx (ρ' := [_, _, _, cD (qL qI roots'), _, _, _, cD (qI start'), cD (qPo p'), cO ((q_law_sorted_roots roots' start' (1000000000 : Int)).map qI), _, _, _]) (fz_own (ρ' := [_, _, _, cD (qL qI roots'), _, _, _, cD (qI start'), cD (qPo p'), _, _, _, _]) rfl rfl (st_set (ev_call (r_law_sorted_roots roots' start' (1000000000 : Int) h.1) (av_cons ev_fro rfl (av_cons ev_fro rfl (av_cons (ev_e2 ev_c ev_c (g_powl (k := 1000000000) (by decide) (by decide +kernel))) rfl av_nil)))) rfl rfl))) (r_law_25 start' p' (q_law_sorted_roots roots' start' (1000000000 : Int)) h.2)
theorem r_law_23 {j0 : Option Cel} {j4 : Option Cel} {j5 : Option Cel} {j6 : Option Cel} {j8 : Option Cel} {j9 : Option Cel} {j10 : Option Cel} {j11 : Option Cel} {j12 : Option Cel} (numbers_here' : List Int) (coefs' : List Int) (roots' : List Int) (start' : Int) (h : v_law_23 numbers_here' coefs' roots' start') : RtOk (b_law_24 [j0, cO (numbers_here'.map qI), cO (coefs'.map qI), cO (roots'.map qI), j4, j5, j6, cD (qI start'), j8, j9, j10, j11, j12]) (fun r x => x = .fro (qB r)) (q_law_23 numbers_here' coefs' roots' start') :=
  RtOk.of (sq_nx (ρ' := [_, cO (numbers_here'.map qI), cO (coefs'.map qI), cO (roots'.map qI), _, _, _, cD (qI start'), cD (qPo (q_Poly_init coefs' ((Int.fmod (Int.fdiv (gt numbers_here' (3 : Int)) (9 : Int)) (9 : Int)) + (1 : Int)))), _, _, _, _]) (st_set (ev_bor (ρ' := [_, cO (numbers_here'.map qI), cD (qL qI coefs'), cO (roots'.map qI), _, _, _, cD (qI start'), _, _, _, _, _]) rfl rfl (ev_call (r_Poly_init coefs' ((Int.fmod (Int.fdiv (gt numbers_here' (3 : Int)) (9 : Int)) (9 : Int)) + (1 : Int)) h.2.1) (av_cons ev_fro rfl (av_cons (ev_e2 (ev_e2 (ev_e2 (ev_e2 ev_own ev_c (g_ix (k := .bor) (e := qI) h.1)) ev_c (g_div (by decide))) ev_c (g_mod (by decide))) ev_c rfl) rfl av_nil))) (nl_fro (e := qPo) _)) rfl rfl)) (r_law_24 roots' start' (q_Poly_init coefs' ((Int.fmod (Int.fdiv (gt numbers_here' (3 : Int)) (9 : Int)) (9 : Int)) + (1 : Int))) h.2.2)
theorem r_law_20 {j0 : Option Cel} {j4 : Option Cel} {j5 : Option Cel} {j6 : Option Cel} {j8 : Option Cel} {j9 : Option Cel} {j10 : Option Cel} {j11 : Option Cel} {j12 : Option Cel} (numbers_here' : List Int) (coefs' : List Int) (roots' : List Int) (start' : Int) (h : v_law_20 numbers_here' coefs' roots' start') : RtOk (b_law_25 [j0, cO (numbers_here'.map qI), cO (coefs'.map qI), cO (roots'.map qI), j4, j5, j6, cD (qI start'), j8, j9, j10, j11, j12]) (fun r x => x = .fro (qB r)) (q_law_20 numbers_here' coefs' roots' start') :=
  sq_NR (E := (fun (s : Int) w => ∃ (j0 : Option Cel) (j4 : Option Cel) (j5 : Option Cel) (j6 : Option Cel) (j8 : Option Cel) (j9 : Option Cel) (j10 : Option Cel) (j11 : Option Cel) (j12 : Option Cel), w = [j0, cO (numbers_here'.map qI), cO (coefs'.map qI), cO (roots'.map qI), j4, j5, j6, cD (qI s), j8, j9, j10, j11, j12])) (q := q_law_22 numbers_here' coefs' roots' start') (nx_if (tv_and (tv_b (ev_e2 (ev_e2 (ev_e2 (ev_e2 ev_own ev_c (g_ix (k := .bor) (e := qI) h.1)) ev_c (g_div (by decide))) ev_c (g_mod (by decide))) ev_c g_eqI)) (fun hb8 => tv_b (ev_e2 (ev_e1 ev_own (g_len (k := .bor))) ev_c rfl))) (fun hb9 => r_law_21 numbers_here' coefs' roots' start' (h.2.1 hb9)) (fun hb9 => nx_next ⟨_, _, _, _, _, _, _, _, _, rfl⟩)) (fun w hw => by obtain ⟨_, _, _, _, _, _, _, _, _, rfl⟩ := hw; exact r_law_23 numbers_here' coefs' roots' (q_law_22 numbers_here' coefs' roots' start') h.2.2)
theorem r_law_19 {j0 : Option Cel} {j4 : Option Cel} {j5 : Option Cel} {j6 : Option Cel} {j7 : Option Cel} {j8 : Option Cel} {j9 : Option Cel} {j10 : Option Cel} {j11 : Option Cel} {j12 : Option Cel} (numbers_here' : List Int) (coefs' : List Int) (roots' : List Int) (h : v_law_19 numbers_here' coefs' roots') : RtOk (b_law_26 [j0, cO (numbers_here'.map qI), cO (coefs'.map qI), cO (roots'.map qI), j4, j5, j6, j7, j8, j9, j10, j11, j12]) (fun r x => x = .fro (qB r)) (q_law_19 numbers_here' coefs' roots') :=
  RtOk.of (sq_nx (ρ' := [_, cO (numbers_here'.map qI), cO (coefs'.map qI), cO (roots'.map qI), _, _, _, cD (qI ((Int.fmod (gt numbers_here' (4 : Int)) (101 : Int)) - (50 : Int))), _, _, _, _, _]) (st_set (ev_e2 (ev_e2 (ev_e2 ev_own ev_c (g_ix (k := .bor) (e := qI) h.1)) ev_c (g_mod (by decide))) ev_c rfl) rfl rfl)) (r_law_20 numbers_here' coefs' roots' ((Int.fmod (gt numbers_here' (4 : Int)) (101 : Int)) - (50 : Int)) h.2)
theorem r_law_16 {j0 : Option Cel} {j4 : Option Cel} {j5 : Option Cel} {j6 : Option Cel} {j7 : Option Cel} {j8 : Option Cel} {j9 : Option Cel} {j10 : Option Cel} {j11 : Option Cel} {j12 : Option Cel} (numbers_here' : List Int) (coefs' : List Int) (roots' : List Int) (h : v_law_16 numbers_here' coefs' roots') : RtOk (b_law_27 [j0, cO (numbers_here'.map qI), cO (coefs'.map qI), cO (roots'.map qI), j4, j5, j6, j7, j8, j9, j10, j11, j12]) (fun r x => x = .fro (qB r)) (q_law_16 numbers_here' coefs' roots') :=
  sq_NR (E := (fun (s : (List Int)) w => ∃ (j0 : Option Cel) (j4 : Option Cel) (j5 : Option Cel) (j6 : Option Cel) (j7 : Option Cel) (j8 : Option Cel) (j9 : Option Cel) (j10 : Option Cel) (j11 : Option Cel) (j12 : Option Cel), w = [j0, cO (numbers_here'.map qI), cO (s.map qI), cO (roots'.map qI), j4, j5, j6, j7, j8, j9, j10, j11, j12])) (q := q_law_18 numbers_here' coefs' roots') (nx_if (tv_b (ev_e2 (ev_e2 (ev_e2 ev_own ev_c (g_ix (k := .bor) (e := qI) h.1)) ev_c (g_mod (by decide))) ev_c g_eqI)) (fun hb7 => r_law_17 numbers_here' coefs' roots' (h.2.1 hb7)) (fun hb7 => nx_next ⟨_, _, _, _, _, _, _, _, _, _, rfl⟩)) (fun w hw => by obtain ⟨_, _, _, _, _, _, _, _, _, _, rfl⟩ := hw; exact r_law_19 numbers_here' (q_law_18 numbers_here' coefs' roots') roots' h.2.2)
theorem r_law_6 {j0 : Option Cel} {j4 : Option Cel} {j5 : Option Cel} {j6 : Option Cel} {j7 : Option Cel} {j8 : Option Cel} {j9 : Option Cel} {j10 : Option Cel} {j11 : Option Cel} {j12 : Option Cel} (numbers_here' : List Int) (coefs' : List Int) (roots' : List Int) (h : v_law_6 numbers_here' coefs' roots') : RtOk (b_law_28 [j0, cO (numbers_here'.map qI), cO (coefs'.map qI), cO (roots'.map qI), j4, j5, j6, j7, j8, j9, j10, j11, j12]) (fun r x => x = .fro (qB r)) (q_law_6 numbers_here' coefs' roots') :=
  sq_NR (E := (fun (s : (List Int) × (List Int)) w => ∃ (j0 : Option Cel) (j4 : Option Cel) (j5 : Option Cel) (j6 : Option Cel) (j7 : Option Cel) (j8 : Option Cel) (j9 : Option Cel) (j10 : Option Cel) (j11 : Option Cel) (j12 : Option Cel), w = [j0, cO (numbers_here'.map qI), cO (s.1.map qI), cO (s.2.map qI), j4, j5, j6, j7, j8, j9, j10, j11, j12])) (q := q_law_15 numbers_here' coefs' roots') (NxOk.of (sfor_eq (iv_r1 (ev_e2 (ev_e2 ev_own ev_c (g_ix (k := .bor) (e := qI) h.1)) ev_c (g_mod (by decide))) h.2.1)) (for_N (E := (fun (s : (List Int) × (List Int)) w => ∃ (j0 : Option Cel) (j4 : Option Cel) (j5 : Option Cel) (j6 : Option Cel) (j7 : Option Cel) (j8 : Option Cel) (j9 : Option Cel) (j10 : Option Cel) (j11 : Option Cel) (j12 : Option Cel), w = [j0, cO (numbers_here'.map qI), cO (s.1.map qI), cO (s.2.map qI), j4, j5, j6, j7, j8, j9, j10, j11, j12])) (V := fun (s4 : (List Int) × (List Int)) (x5 : Int) => v_law_7 numbers_here' s4.1 s4.2 x5) (f := fun (s4 : (List Int) × (List Int)) (x5 : Int) => q_law_7 numbers_here' s4.1 s4.2 x5) (e := qI) (fun s4 x5 ρ hρ hv6 => by obtain ⟨_, _, _, _, _, _, _, _, _, _, rfl⟩ := hρ; exact ⟨_, rfl, r_law_7 numbers_here' s4.1 s4.2 x5 hv6⟩) (rngT 0 (Int.fmod (gt numbers_here' (1 : Int)) (5 : Int))) (coefs', roots') _ ⟨_, _, _, _, _, _, _, _, _, _, rfl⟩ h.2.2.1)) (fun w hw => by obtain ⟨_, _, _, _, _, _, _, _, _, _, rfl⟩ := hw; exact r_law_16 numbers_here' ((q_law_15 numbers_here' coefs' roots').1) ((q_law_15 numbers_here' coefs' roots').2) h.2.2.2)
theorem r_law_5 {j0 : Option Cel} {j3 : Option Cel} {j4 : Option Cel} {j5 : Option Cel} {j6 : Option Cel} {j7 : Option Cel} {j8 : Option Cel} {j9 : Option Cel} {j10 : Option Cel} {j11 : Option Cel} {j12 : Option Cel} (numbers_here' : List Int) (coefs' : List Int) (h : v_law_5 numbers_here' coefs') : RtOk (b_law_29 [j0, cO (numbers_here'.map qI), cO (coefs'.map qI), j3, j4, j5, j6, j7, j8, j9, j10, j11, j12]) (fun r x => x = .fro (qB r)) (q_law_5 numbers_here' coefs') :=
  RtOk.of (sq_nx (ρ' := [_, cO (numbers_here'.map qI), cO (coefs'.map qI), cO (([] : List Int).map qI), _, _, _, _, _, _, _, _, _]) (st_set (ev_lst av_nil) rfl rfl)) (r_law_6 numbers_here' coefs' ([] : List Int) h)
theorem r_law_2 {j0 : Option Cel} {j3 : Option Cel} {j4 : Option Cel} {j5 : Option Cel} {j6 : Option Cel} {j7 : Option Cel} {j8 : Option Cel} {j9 : Option Cel} {j10 : Option Cel} {j11 : Option Cel} {j12 : Option Cel} (numbers_here' : List Int) (coefs' : List Int) (h : v_law_2 numbers_here' coefs') : RtOk (b_law_30 [j0, cO (numbers_here'.map qI), cO (coefs'.map qI), j3, j4, j5, j6, j7, j8, j9, j10, j11, j12]) (fun r x => x = .fro (qB r)) (q_law_2 numbers_here' coefs') :=
  sq_NR (E := (fun (s : (List Int)) w => ∃ (j0 : Option Cel) (j3 : Option Cel) (j4 : Option Cel) (j5 : Option Cel) (j6 : Option Cel) (j7 : Option Cel) (j8 : Option Cel) (j9 : Option Cel) (j10 : Option Cel) (j11 : Option Cel) (j12 : Option Cel), w = [j0, cO (numbers_here'.map qI), cO (s.map qI), j3, j4, j5, j6, j7, j8, j9, j10, j11, j12])) (q := q_law_4 numbers_here' coefs') (nx_if (tv_b (ev_e2 (ev_e2 ev_own ev_c (g_ix (k := .bor) (e := qI) h.1)) ev_c rfl)) (fun hb1 => r_law_3 numbers_here' coefs' (h.2.1 hb1)) (fun hb1 => nx_next ⟨_, _, _, _, _, _, _, _, _, _, _, rfl⟩)) (fun w hw => by obtain ⟨_, _, _, _, _, _, _, _, _, _, _, rfl⟩ := hw; exact r_law_5 numbers_here' (q_law_4 numbers_here' coefs') h.2.2)
theorem r_law_1 {j0 : Option Cel} {j2 : Option Cel} {j3 : Option Cel} {j4 : Option Cel} {j5 : Option Cel} {j6 : Option Cel} {j7 : Option Cel} {j8 : Option Cel} {j9 : Option Cel} {j10 : Option Cel} {j11 : Option Cel} {j12 : Option Cel} (numbers_here' : List Int) (h : v_law_1 numbers_here') : RtOk (b_law_31 [j0, cO (numbers_here'.map qI), j2, j3, j4, j5, j6, j7, j8, j9, j10, j11, j12]) (fun r x => x = .fro (qB r)) (q_law_1 numbers_here') :=
  RtOk.of (sq_nx (ρ' := [_, cO (numbers_here'.map qI), cO (([((Int.fmod (gt numbers_here' (0 : Int)) (12 : Int)) - (6 : Int))]).map qI), _, _, _, _, _, _, _, _, _, _]) (st_set (ev_lst (av_cons (ev_e2 (ev_e2 (ev_e2 ev_own ev_c (g_ix (k := .bor) (e := qI) h.1)) ev_c (g_mod (by decide))) ev_c rfl) rfl av_nil) (Nat.le_of_ble_eq_true rfl)) rfl rfl)) (r_law_2 numbers_here' ([((Int.fmod (gt numbers_here' (0 : Int)) (12 : Int)) - (6 : Int))]) h.2)
theorem r_law_0 {j1 : Option Cel} {j2 : Option Cel} {j3 : Option Cel} {j4 : Option Cel} {j5 : Option Cel} {j6 : Option Cel} {j7 : Option Cel} {j8 : Option Cel} {j9 : Option Cel} {j10 : Option Cel} {j11 : Option Cel} {j12 : Option Cel} (script' : List Int) (h : v_law_0 script') : RtOk (b_law_32 [cD (qL qI script'), j1, j2, j3, j4, j5, j6, j7, j8, j9, j10, j11, j12]) (fun r x => x = .fro (qB r)) (q_law_0 script') :=
  RtOk.of (sq_nx (ρ' := [cD (qL qI script'), cO ((q_law_numbers script' (10 : Int)).map qI), _, _, _, _, _, _, _, _, _, _, _]) (st_set (ev_call (r_law_numbers script' (10 : Int) h.1) (av_cons ev_fro rfl (av_cons ev_c rfl av_nil))) rfl rfl)) (r_law_1 (q_law_numbers script' (10 : Int)) h.2)
theorem r_law (script' : List Int) (h : v_law script') : f_law [qL qI script'] = some (.ok (.fro (qB (q_law script')))) :=
  fn_F (e := qB) (r_law_0 script' h)
end G

set_option maxHeartbeats 2000000
/-! K14: roots_from, free_from. -/
namespace G
open PySem PySem.Spec L2 Pd
theorem x_tryIf' {F G : FS} {ρ ρ' ρ'' : PEnv} {c i : Nat} {hit res : Nat → Option Bool} (h : F ρ = some (.xc c [] ρ')) (hi : i < ρ'.length) (hh : hit c = some true) (hr : res c = some true) (hG : G (ρ'.set i none) = some (.nx ρ'')) : sTryIf i hit res F G ρ = some (.nx (ρ''.set i none)) := by
  unfold sTryIf
  rw [h]
  dsimp only
  rw [if_pos ⟨rfl, hi⟩, hh]
  dsimp only
  rw [hr]
  dsimp only
  rw [hG]
  rfl
theorem x_set {f : FE} {ρ : PEnv} {c i : Nat} {es : List Dt} (h : f ρ = some (.ex c es)) : sSet i f ρ = some (.xc c es ρ) := by unfold sSet; rw [h]; rfl
theorem x_e2 {f g : FE} {op : Rs → Rs → M Rs} {ρ : PEnv} {c : Nat} {es : List Dt} (h : f ρ = some (.ex c es)) : e2 op f g ρ = some (.ex c es) := by unfold e2; rw [h]; rfl
theorem zero_po : v_Poly_init ([] : List Int) 1 ∧ q_Poly_is_zero (q_Poly_init ([] : List Int) 1) = true := by
  obtain ⟨v, s, e⟩ := (LS.nil (b := 1) (by decide)).po (d := 1) (by decide) (by decide) ⟨by decide, by decide⟩
  refine ⟨v, ?_⟩
  rw [po_zero, decide_eq_true_iff]
  have := s.len; omega
theorem settled_x (start : Int) : f_settled_from [qPo (q_Poly_init ([] : List Int) 1), qI start] = some (.ex 2 []) :=
  x_fn (x_test (tv_tru (ev_e1 ev_fro (g_attP (r_Poly_is_zero _) rfl rfl rfl)) rfl) zero_po.2)
theorem roots_x (start : Int) : f_roots_from [qPo (q_Poly_init ([] : List Int) 1), qI start] = some (.ex 2 []) :=
  x_fn (x_seq (x_set (x_e2 (x_callk (ds := [qPo (q_Poly_init ([] : List Int) 1)]) (zs := [qI start]) (av_cons ev_fro rfl av_nil) (av_cons ev_fro rfl av_nil) (settled_x start)))))
theorem free_x (start : Int) : f_free_from [qPo (q_Poly_init ([] : List Int) 1), qI start] = some (.ex 2 []) :=
  x_fn (x_seq (x_set (x_callk (ds := [qPo (q_Poly_init ([] : List Int) 1)]) (zs := [qI start]) (av_cons ev_fro rfl av_nil) (av_cons ev_fro rfl av_nil) (roots_x start))))
theorem refuse_ok (start : Int) : v_law_refuse start := by
  obtain ⟨v, hz⟩ := zero_po
  show f_law_refuse [qI start] = _
  have h1 : b_law_refuse_0 [cD (qI start), cD (qI 0), none] = some (.xc 2 [] [cD (qI start), cD (qI 0), none]) :=
    x_expr (x_callk (ds := [qPo (q_Poly_init ([] : List Int) 1)]) (zs := [qI start]) (av_cons (ev_call (r_Poly_init ([] : List Int) 1 v) (av_cons (ev_lst av_nil) rfl av_nil)) rfl av_nil) (av_cons ev_fro rfl av_nil) (roots_x start))
  have h2 : b_law_refuse_2 [cD (qI start), cD (qI 1), none] = some (.xc 2 [] [cD (qI start), cD (qI 1), none]) :=
    x_expr (x_callk (ds := [qPo (q_Poly_init ([] : List Int) 1)]) (zs := [qI start]) (av_cons (ev_call (r_Poly_init ([] : List Int) 1 v) (av_cons (ev_lst av_nil) rfl av_nil)) rfl av_nil) (av_cons ev_fro rfl av_nil) (free_x start))
  have t1 := x_tryIf' (i := 2) (hit := tbl [(1, false), (2, true)]) (res := tbl [(2, true)]) (G := b_law_refuse_1) h1 (by show 2 < 3; decide) rfl rfl (ρ'' := [cD (qI start), cD (qI 1), none]) rfl
  have t2 := x_tryIf' (i := 2) (hit := tbl [(1, false), (2, true)]) (res := tbl [(2, true)]) (G := b_law_refuse_3) h2 (by show 2 < 3; decide) rfl rfl (ρ'' := [cD (qI start), cD (qI 2), none]) rfl
  refine x_out (nl := 2) (np := 1) ?_
  refine (x_nx (ρ' := [cD (qI start), cD (qI 0), none]) rfl).trans ?_
  refine (x_nx t1).trans ?_
  refine (x_nx t2).trans ?_
  rfl
theorem one_sm {b : Nat} (h : 0 < b) : Sm 1 b := ⟨by show 1 < 2 ^ b; exact Nat.one_lt_two_pow (by omega), h⟩
theorem two_ls {a b : Int} {m : Nat} (ha : Sm a m) (hb : Sm b m) : LS [a, b] 2 m := ⟨Nat.le_refl _, fun k => by
  match k with
  | 0 => exact ha
  | 1 => exact hb
  | k + 2 => rw [co_ge (by simp)]; exact Sm.zero ha.pos⟩
theorem three_ls {a b c : Int} {m : Nat} (ha : Sm a m) (hb : Sm b m) (hc : Sm c m) : LS [a, b, c] 3 m := ⟨Nat.le_refl _, fun k => by
  match k with
  | 0 => exact ha
  | 1 => exact hb
  | 2 => exact hc
  | k + 3 => rw [co_ge (by simp)]; exact Sm.zero ha.pos⟩
theorem nz_of_hz {xs : List Int} {x : Int} (h : hz x xs ≠ 0) : lv xs ≠ 0 := fun z => h (ic_eq (by
  rw [← hz_ev, z, Ps.ev_zero]; rfl))
/-- the whole state: coefficients, the roots known -/
structure Stt (cs rs : List Int) (i : Nat) : Prop where
  ls : LS cs (1 + 2 * i) (4 + 40 * i)
  nz : lv cs ≠ 0
  st : St (shc 10000041 cs)
  rt : ∀ r : Int, hz r cs = 0 ↔ r ∈ rs
  rr : ∀ r ∈ rs, -40 ≤ r ∧ r ≤ 10000040
theorem prod_nz {xs ys : List Int} {m : Nat} (hz : lv xs ≠ 0) (hl : ys.length ≤ m + 1) (ht : co ys m ≠ 0) : lv xs * lv ys ≠ 0 := fun z => hz (by
  refine deg_zero (f := lv xs) (g := lv ys) (m := m) (lv_Bd hl) (ic_ne ht) (by rw [z]; exact Ps.Bd.zero.up (Nat.zero_le _)) (lv_Bd (Nat.le_refl _)))
theorem step_fac {cs : List Int} {i : Nat} {a b : Int} (hi : i ≤ 6) (h : LS cs (1 + 2 * i) (4 + 40 * i)) (hn : lv cs ≠ 0) (hs : St (shc 10000041 cs)) (ha : 0 < a) (ha4 : a ≤ 3) (hb : -40 ≤ b) (hb2 : b ≤ 40 + a * 10000000) : v_law_product cs [-b, a] ∧ LS (q_law_product cs [-b, a]) (1 + 2 * (i + 1)) (4 + 40 * (i + 1)) ∧ lv (q_law_product cs [-b, a]) ≠ 0 ∧ St (shc 10000041 (q_law_product cs [-b, a])) ∧ ∀ r, hz r (q_law_product cs [-b, a]) = 0 ↔ (hz r cs = 0 ∨ (b.fmod a = 0 ∧ r = b.fdiv a)) := by
  have tl : LS [-b, a] 2 26 := two_ls (sm_range (-30000060) 60 (by omega) (by omega) (by decide) (by decide) (by decide)) (sm_range 0 3 (by omega) (by omega) (by decide) (by decide) (by decide))
  obtain ⟨v, l, e⟩ := product_spec h tl (by omega) (by omega) (by omega) (by omega)
  refine ⟨v, l.up (by omega) (by omega), by rw [e]; exact prod_nz (m := 1) hn (by simp) (by show a ≠ 0; omega), St.fac e (by omega) (by omega) hs, fun r => ?_⟩
  rw [hz_prod e, Int.mul_eq_zero, hz_line r b a ha]
def frS (s : Int) (fo : List Int) : Nat → Int
  | 0 => s
  | i + 1 => gt fo (i : Int) + 1
theorem k24 {cs rs : List Int} {s d : Int} {i : Nat} (hs : Stt cs rs i) (hi : i ≤ 7) (hr : rs.length < 64) (hd : 0 < d) (hd2 : d ≤ 9) (hl : -50 ≤ s) (hl2 : s ≤ 10000041) : v_Poly_init cs d ∧ v_law_24 rs s (q_Poly_init cs d) ∧ q_law_24 rs s (q_Poly_init cs d) = true := by
  have sd : Sm d 300 := sm_range 0 9 (by omega) (by omega) (by decide +kernel) (by decide +kernel) (by decide)
  obtain ⟨v1, s1, e1⟩ := (hs.ls.up (m := 15) (c := 300) (by omega) (by omega) : LS cs 15 300).po (d := d) (by omega) (by decide) sd
  have hz := hs.nz
  generalize q_Poly_init cs d = p at *
  have hpc : p.coefs ≠ [] := fun z => hz (by
    rw [e1]
    have : pv p = 0 := Ps.ext fun k => by
      show (co p.coefs k : Rat) / p.den = _
      rw [z, co_nil, Ps.zero_cf, show ((0 : Int) : Rat) = 0 from rfl]; grind
    rw [this]; grind)
  have key : ∀ k, co p.coefs k * d = co cs k * p.den := fun k => by
    have h1 : (lv cs).cf k = (ci d * pv p).cf k := by rw [e1]
    rw [lv_cf, Ps.c_mul] at h1
    have h2 := s1.coef k
    apply ic_eq
    rw [Rat.intCast_mul, Rat.intCast_mul, h1, h2]; grind
  have stp : ∀ t, St (shc t p.coefs) ↔ St (shc t cs) := fun t => St.scale (d := d) (e := p.den) (fun k => shc_lin t p.coefs cs d p.den key k) hd s1.pos
  have same : ∀ r, Rt p r ↔ r ∈ rs := fun r => by
    rw [← hs.rt r, rt_hz, ← hz_shc, ← hz_shc]
    have h := shc_lin r p.coefs cs d p.den key 0
    have := s1.pos
    constructor
    · intro q
      rw [q, Int.zero_mul] at h
      exact (Int.mul_eq_zero.mp h.symm).resolve_right (by omega)
    · intro q
      rw [q, Int.zero_mul] at h
      exact (Int.mul_eq_zero.mp h).resolve_right (by omega)
  obtain ⟨w1, w2, w3, w4, w5⟩ := settled_spec (start := s) (c := 25) s1 hpc (sm_range (-50) 10000041 hl hl2 (by decide) (by decide) (by decide)) (by decide) (by decide)
  have E0 : q_roots_from p s = q_roots_between p s (q_settled_from p s - 1) := rfl
  have V0 : v_roots_from p s = (v_settled_from p s ∧ v_roots_between p s (q_settled_from p s - 1)) := rfl
  generalize hH : q_settled_from p s = H at *
  have hH2 : H ≤ 10000041 := by
    by_cases q : H ≤ 10000041
    · exact q
    · have m := ((stp 10000041).mpr hs.st).move (t := H - 1 - 10000041) (by omega)
      rw [show 10000041 + (H - 1 - 10000041) = H - 1 by omega] at m
      exact absurd m (w5 (by omega))
  obtain ⟨v2, r2⟩ := roots_spec (lo := s) (hi := H - 1) (c := 25) s1 hpc (sm_range (-50) 10000041 hl hl2 (by decide) (by decide) (by decide)) (sm_range (-51) 10000040 (by omega) (by omega) (by decide) (by decide) (by decide)) (by omega) (by decide) (by decide) (by decide)
  have hv : v_roots_from p s := by rw [V0]; exact ⟨w1, v2⟩
  rw [← E0] at r2
  obtain ⟨v3, r3⟩ := sortedRoots_spec (roots := rs) (lo := s) (hi := 1000000000) hr
  have r2' : RtsIn (fun r => r ∈ rs) s 1000000000 (q_roots_from p s) := ⟨r2.pw, fun r => by
    rw [r2.mem r, same]
    constructor
    · rintro ⟨a, b, c⟩; exact ⟨a, by omega, c⟩
    · rintro ⟨a, b, c⟩
      refine ⟨a, ?_, c⟩
      by_cases q : r ≤ H - 1
      · exact q
      · have m := w4.move (t := r - H) (by omega)
        rw [show H + (r - H) = r by omega] at m
        have z : shc r p.coefs 0 = 0 := (same r).mpr c
        rcases m with ⟨m, _⟩ | ⟨m, _⟩ <;> omega⟩
  have E := r2'.uniq r3
  have fl := r2.len (by omega)
  have hff : q_free_from p s = (if (decide (((q_roots_from p s).length : Int) = (0 : Int))) then s else (gt (q_roots_from p s) (-(1 : Int))) + (1 : Int)) := rfl
  have hvf : v_free_from p s = (v_roots_from p s ∧ ((decide (((q_roots_from p s).length : Int) = (0 : Int))) = false → inR (q_roots_from p s) (-(1 : Int)))) := rfl
  refine ⟨v1, ?_⟩
  unfold v_law_24 q_law_24 v_law_25 q_law_25
  rw [← E]
  generalize hfo : q_roots_from p s = fo at *
  have hlen : decide ((fo.length : Int) = (fo.length : Int)) = true := decide_eq_true rfl
  have hfree : q_free_from p s = frS s fo fo.length := by
    rw [hff]
    cases hc : fo.length with
    | zero => rfl
    | succ m =>
      rw [if_neg (by simp; omega), show (-(1 : Int)) = -1 from rfl, gt_neg (by omega)]
      show _ = gt fo (m : Int) + 1
      rw [gt_co]
      have := co_lt (xs := fo) (k := m) (by omega)
      have e2 : fo[fo.length - 1]'(by omega) = co fo m := by
        have e3 : fo.length - 1 = m := by omega
        have e4 : fo[fo.length - 1]? = some (co fo m) := by rw [e3]; exact this
        exact (List.getElem?_eq_some_iff.mp e4).2
      rw [e2]
  have hvfree : v_free_from p s := by
    rw [hvf]
    refine ⟨hv, fun q => inR_neg ?_⟩
    have := of_decide_eq_false q
    omega
  obtain ⟨w, f', ew, ef⟩ := forX_inv0 (τ := Empty) (V := fun (s14 : Int) (x15 : Int) => v_law_30 x15 s p fo fo s14) (f := fun (s14 : Int) (x15 : Int) => q_law_30 x15 s p fo fo s14) (xs := rngT 0 (fo.length : Int)) (s := s) (fun i t => t = frS s fo i) rfl fun j x t hx ht => by
    obtain ⟨hj, ex⟩ := rngT0_get hx
    subst ex
    refine ⟨⟨inR_nat hj, fun _ => ⟨inR_nat hj, inR_nat hj⟩, fun _ => inR_nat hj⟩, gt fo (j : Int) + 1, ?_, rfl⟩
    show (if ((!(q_law_is_integer (gt fo (j : Int)))) || (!decide ((gt fo (j : Int)) = (gt fo (j : Int))))) = true then Fl.rt q_law_31 else Fl.nx (q_law_32 (j : Int) s p fo fo t)) = _
    rw [is_integer, decide_eq_true rfl]; rfl
  rw [rngT0_length] at ef
  subst ef
  have T38 : v_law_38 s (frS s fo fo.length) (q_free_from p s) ∧ q_law_38 s (frS s fo fo.length) (q_free_from p s) = true := by
    unfold v_law_38 q_law_38
    rw [hfree, is_integer, decide_eq_true rfl]
    exact ⟨fun _ _ => refuse_ok s, rfl⟩
  have T34 : v_law_34 s p fo fo (frS s fo fo.length) ∧ q_law_34 s p fo fo (frS s fo fo.length) = true := by
    unfold v_law_34 q_law_34 v_law_35 q_law_35 v_law_37 q_law_37
    rw [hfo, decide_eq_true rfl]
    exact ⟨⟨line16 (by omega), hv, fun _ => ⟨hvfree, T38.1⟩⟩, T38.2⟩
  unfold v_law_26 q_law_26
  rw [hlen]
  unfold v_law_28 q_law_28 v_law_29 q_law_29
  refine ⟨⟨v3, hv, fun _ => ⟨rOk_nat (by omega), w, fun t ht => ?_⟩⟩, ?_⟩
  · have : q_law_33 s p fo fo s = Fl.nx (frS s fo fo.length) := ew
    rw [this] at ht
    cases ht
    exact T34.1
  · show ((forX (fun (s14 : Int) (x15 : Int) => q_law_30 x15 s p fo fo s14) (rngT 0 (fo.length : Int)) s : Fl Int Empty Bool).fin fun s17 => q_law_34 s p fo fo s17) = true
    rw [ew]; exact T34.2
theorem k19 {L cs rs : List Int} {j : Nat} (hL : Drawn L 10) (hs : Stt cs rs j) (hj : j ≤ 7) (hr : rs.length < 64) : v_law_19 L cs rs ∧ q_law_19 L cs rs = true := by
  obtain ⟨i2, -⟩ := hL.at (i := 2) (by omega) (by omega)
  obtain ⟨i3, -⟩ := hL.at (i := 3) (by omega) (by omega)
  obtain ⟨i4, -⟩ := hL.at (i := 4) (by omega) (by omega)
  have f4 := fmod_pos (i := gt L 4) (j := 101) (by decide)
  have f4' := fmod_pos (i := gt L 4) (j := 2) (by decide)
  have f3' := fmod_pos (i := (gt L 3).fdiv 9) (j := 9) (by decide)
  unfold v_law_19 q_law_19 v_law_20 q_law_20 q_law_22 q_law_21
  by_cases h : ((decide ((Int.fmod (Int.fdiv (gt L (2 : Int)) (3 : Int)) (4 : Int)) = (1 : Int))) && (decide ((rs.length : Int) > (0 : Int)))) = true
  · rw [if_pos h]
    have hl : 0 < rs.length := by
      have := of_decide_eq_true (Bool.and_eq_true_iff.mp h).2
      omega
    have g0 : gt rs (0 : Int) = co rs 0 := gt_co rs 0
    have hm := hs.rr (co rs 0) (List.mem_of_getElem? (co_lt hl))
    obtain ⟨v1, v2, t⟩ := k24 (s := gt rs (0 : Int) + Int.fmod (gt L 4) 2) (d := Int.fmod ((gt L 3).fdiv 9) 9 + 1) hs hj hr (by omega) (by omega) (by omega) (by omega)
    exact ⟨⟨i4, i2, fun _ => ⟨inR_nat hl, i4⟩, i3, v1, v2⟩, t⟩
  · rw [if_neg h]
    obtain ⟨v1, v2, t⟩ := k24 (s := Int.fmod (gt L 4) 101 - 50) (d := Int.fmod ((gt L 3).fdiv 9) 9 + 1) hs hj hr (by omega) (by omega) (by omega) (by omega)
    exact ⟨⟨i4, i2, fun z => absurd z h, i3, v1, v2⟩, t⟩
theorem k16 {L cs rs : List Int} {i : Nat} (hL : Drawn L 10) (hs : Stt cs rs i) (hi : i ≤ 5) (hr : rs.length < 64) : v_law_16 L cs rs ∧ q_law_16 L cs rs = true := by
  obtain ⟨i2, -⟩ := hL.at (i := 2) (by omega) (by omega)
  obtain ⟨i3, -⟩ := hL.at (i := 3) (by omega) (by omega)
  have f3 := fmod_pos (i := gt L 3) (j := 9) (by decide)
  unfold v_law_16 q_law_16 q_law_18 q_law_17
  by_cases h : decide ((Int.fmod (gt L (2 : Int)) (3 : Int)) = (1 : Int)) = true
  · rw [if_pos h]
    have tl : LS [Int.fmod (gt L 3) 9 + 1, (0 : Int), 1] 3 4 := three_ls (sm_range 0 9 (by omega) (by omega) (by decide) (by decide) (by decide)) (Sm.zero (by decide)) (one_sm (by decide))
    obtain ⟨v, l, e⟩ := product_spec hs.ls tl (by omega) (by omega) (by omega) (by omega)
    obtain ⟨w, t⟩ := k19 (cs := q_law_product cs [Int.fmod (gt L 3) 9 + 1, 0, 1]) (j := i + 2) hL ⟨l.up (by omega) (by omega), by rw [e]; exact prod_nz (m := 2) hs.nz (by simp) (by show (1 : Int) ≠ 0; decide), St.quad e (by omega) (by decide) hs.st, fun r => by
      rw [hz_prod e, Int.mul_eq_zero, hs.rt r]
      constructor
      · rintro (q | q)
        · exact q
        · exact absurd q (hz_quad r _ (by omega))
      · exact fun q => .inl q, hs.rr⟩ (by omega) hr
    exact ⟨⟨i2, fun _ => ⟨i3, v⟩, w⟩, t⟩
  · rw [if_neg h]
    obtain ⟨w, t⟩ := k19 hL hs (by omega) hr
    exact ⟨⟨i2, fun z => absurd z h, w⟩, t⟩
theorem k5 {L cs : List Int} (hL : Drawn L 10) (hs : Stt cs [] 0) : v_law_5 L cs ∧ q_law_5 L cs = true := by
  obtain ⟨i1, -⟩ := hL.at (i := 1) (by omega) (by omega)
  have f1 := fmod_pos (i := gt L 1) (j := 5) (by decide)
  obtain ⟨m, em⟩ := Int.eq_ofNat_of_zero_le f1.1
  have lp := forV_inv0 (V := fun (s4 : (List Int) × (List Int)) (x5 : Int) => v_law_7 L s4.1 s4.2 x5) (f := fun (s4 : (List Int) × (List Int)) (x5 : Int) => q_law_7 L s4.1 s4.2 x5) (xs := rngT 0 (m : Int)) (s := (cs, []))
    (fun i t => (Stt t.1 t.2 i) ∧ t.2.length ≤ i) ⟨hs, Nat.le_refl _⟩ fun i y t hy ⟨g1, g2⟩ => by
      obtain ⟨hi, ey⟩ := rngT0_get hy
      subst ey
      obtain ⟨cs, rs⟩ := t
      dsimp only at g1 g2
      obtain ⟨ir, z, ez, z0, z1⟩ := hL.at (i := (5 : Int) + i) (by omega) (by omega)
      have fa := fmod_pos (i := z) (j := 3) (by decide)
      have fb := fmod_pos (i := z.fdiv 3) (j := 81) (by decide)
      have key : ∀ b : Int, -40 ≤ b → b ≤ 40 + (Int.fmod z 3 + 1) * 10000000 → v_law_12 L cs rs (Int.fmod z 3 + 1) b ∧ Stt (q_law_12 L cs rs (Int.fmod z 3 + 1) b).1 (q_law_12 L cs rs (Int.fmod z 3 + 1) b).2 (i + 1) ∧ (q_law_12 L cs rs (Int.fmod z 3 + 1) b).2.length ≤ i + 1 := fun b hb1 hb2 => by
        have ha0 : 0 < Int.fmod z 3 + 1 := by omega
        have ha3 : Int.fmod z 3 + 1 ≤ 3 := by omega
        generalize Int.fmod z 3 + 1 = a at *
        obtain ⟨v1, l, nz, st, rt⟩ := step_fac (by omega) g1.ls g1.nz g1.st ha0 ha3 hb1 hb2
        have g1r : ∀ r, hz r cs = 0 ↔ r ∈ rs := g1.rt
        unfold v_law_12 q_law_12 v_law_13 q_law_13 v_law_14 q_law_14
        by_cases hm : decide ((Int.fmod b a) = (0 : Int)) = true
        · rw [if_pos hm]
          have hm' := of_decide_eq_true hm
          refine ⟨⟨v1, by omega, fun _ => ⟨by omega, line_lt (by omega)⟩⟩, ⟨l, nz, st, fun r => ?_, fun r hr => ?_⟩, by simp; omega⟩
          · rw [rt r, g1r r, List.mem_append, List.mem_singleton]
            constructor
            · rintro (q | ⟨_, q⟩)
              · exact .inl q
              · exact .inr q
            · rintro (q | q)
              · exact .inl q
              · exact .inr ⟨hm', q⟩
          · rcases List.mem_append.mp hr with q | q
            · exact g1.rr r q
            · rw [List.mem_singleton.mp q]
              have e := Int.mul_fdiv_add_fmod b a
              rw [hm'] at e
              generalize b.fdiv a = x at *
              have : a = 1 ∨ a = 2 ∨ a = 3 := by omega
              rcases this with rfl | rfl | rfl <;> omega
        · rw [if_neg hm]
          have hm' : ¬ b.fmod a = 0 := fun q => hm (decide_eq_true q)
          refine ⟨⟨v1, by omega, fun q => absurd q hm⟩, ⟨l, nz, st, fun r => ?_, g1.rr⟩, by show rs.length ≤ i + 1; omega⟩
          rw [rt r, g1r r]
          constructor
          · rintro (q | ⟨q, _⟩)
            · exact q
            · exact absurd q hm'
          · exact fun q => .inl q
      show v_law_7 L cs rs (i : Int) ∧ Stt (q_law_7 L cs rs (i : Int)).1 (q_law_7 L cs rs (i : Int)).2 (i + 1) ∧ (q_law_7 L cs rs (i : Int)).2.length ≤ i + 1
      unfold v_law_7 q_law_7 v_law_8 q_law_8 v_law_9 q_law_9 q_law_11 q_law_10
      rw [ez]
      by_cases hb : decide ((Int.fmod (Int.fdiv z (243 : Int)) (8 : Int)) = (1 : Int)) = true
      · rw [if_pos hb]
        obtain ⟨a1, a2, a3⟩ := key (Int.fmod (Int.fdiv z 3) 81 - 40 + (Int.fmod z 3 + 1) * 10000000) (by omega) (by omega)
        exact ⟨⟨ir, ir, ir, fun _ => mulOk_sm (a := 2) (b := 24) (sm_range 0 3 (by omega) (by omega) (by decide) (by decide) (by decide)) ⟨by decide, by decide⟩ (by decide), a1⟩, a2, a3⟩
      · rw [if_neg hb]
        obtain ⟨a1, a2, a3⟩ := key (Int.fmod (Int.fdiv z 3) 81 - 40) (by omega) (by omega)
        exact ⟨⟨ir, ir, ir, fun q => absurd q hb, a1⟩, a2, a3⟩
  rw [rngT0_length] at lp
  obtain ⟨v, g1, g2⟩ := lp
  unfold v_law_5 q_law_5 v_law_6 q_law_6 q_law_15
  rw [em]
  obtain ⟨w, t⟩ := k16 hL g1 (by omega) (by omega)
  exact ⟨⟨i1, rOk_nat (by omega), v, w⟩, t⟩
theorem law_ok {ns : List Int} (hl : ns.length ≤ 63) (hb : ∀ z ∈ ns, Builtin.Int.intBits z ≤ 1048576) : v_law ns ∧ q_law ns = true := by
  obtain ⟨v0, hL⟩ := numbers_spec hl hb 10 (by omega)
  have v0' : v_law_numbers ns (10 : Int) := v0
  have hL' : Drawn (q_law_numbers ns (10 : Int)) 10 := hL
  show (v_law_numbers ns (10 : Int) ∧ v_law_1 (q_law_numbers ns (10 : Int))) ∧ q_law_1 (q_law_numbers ns (10 : Int)) = true
  generalize q_law_numbers ns (10 : Int) = L at hL'
  clear v0 hL
  obtain ⟨i0, -⟩ := hL'.at (i := 0) (by omega) (by omega)
  have f0 := fmod_pos (i := gt L 0) (j := 12) (by decide)
  have st : ∀ c : Int, -6 ≤ c → c ≤ 6 → c ≠ 0 → Stt [c] [] 0 := fun c h1 h2 h3 => ⟨⟨Nat.le_refl _, fun k => by
    cases k with
    | zero => exact sm_range (-6) 6 (by show _ ≤ c; omega) (by show c ≤ _; omega) (by decide) (by decide) (by decide)
    | succ k => rw [co_ge (by simp)]; exact Sm.zero (by decide)⟩, nz_of_hz (x := 0) (by show c + 0 * 0 ≠ 0; omega), by
      have h0 : shc 10000041 [c] 0 = c := by show c + 10000041 * 0 = c; omega
      have hk : ∀ k, shc 10000041 [c] (k + 1) = 0 := fun k => shc_ge 10000041 [c] (k + 1) (by simp)
      rcases Int.lt_or_gt_of_ne h3 with q | q
      · exact .inr ⟨by omega, fun k => by cases k with
          | zero => omega
          | succ k => rw [hk]; exact Int.le_refl _⟩
      · exact .inl ⟨by omega, fun k => by cases k with
          | zero => omega
          | succ k => rw [hk]; exact Int.le_refl _⟩, fun r => ⟨fun q => absurd (show c + r * 0 = 0 from q) (by omega), (fun q => nomatch q)⟩, (fun r q => nomatch q)⟩
  unfold v_law_1 q_law_1 v_law_2 q_law_2 q_law_4 q_law_3
  have g : ∀ c : Int, gt [c] (0 : Int) = c := fun c => gt_co [c] 0
  have ii : ∀ c : Int, inR [c] (0 : Int) := fun c => inR_i (Int.le_refl _) (by simp)
  have hset : ∀ c d : Int, setT [c] (0 : Int) d = [d] := fun c d => setT_nat (xs := [c]) (k := 0) (by simp)
  rw [g, hset]
  by_cases h : decide (Int.fmod (gt L 0) 12 - 6 ≥ (0 : Int)) = true
  · rw [if_pos h]
    have := of_decide_eq_true h
    obtain ⟨v, t⟩ := k5 hL' (st (Int.fmod (gt L 0) 12 - 6 + 1) (by omega) (by omega) (by omega))
    exact ⟨⟨v0', i0, ii _, fun _ => ⟨ii _, ii _⟩, v⟩, t⟩
  · rw [if_neg h]
    have := of_decide_eq_false (by simpa using h : decide (Int.fmod (gt L 0) 12 - 6 ≥ (0 : Int)) = false)
    obtain ⟨v, t⟩ := k5 hL' (st (Int.fmod (gt L 0) 12 - 6) (by omega) (by omega) (by omega))
    exact ⟨⟨v0', i0, ii _, fun q => absurd q h, v⟩, t⟩
theorem law_true (ns : List Int) (hl : ns.length ≤ 63) (hb : ∀ z ∈ ns, Builtin.Int.intBits z ≤ 1048576) : f_law [.lst (ns.map Dt.int)] = some (.ok (.fro (.bl true))) := by
  obtain ⟨v, e⟩ := law_ok hl hb
  have := r_law ns v
  rw [e] at this
  exact this
end G

open PySem PySem.W PySem.Calls PyProof.Rows L2 Pd
theorem PySem.Challenge.cw_certsums_k14_roots_from_holds : PySem.Challenge.rw_certsums_k14_roots_from.Holds := by
  w_on; o_law
  refine HandSHeadRun.head_imp (r := G.Rw) (q := view G.Rw.prog [0, 25]) (H := G.hk) (ob := G.ob) (M := 20000) (loose := ["_wall", "__name__", "SummationError", "DivisionByZero", "ZeroPolynomial", "is_settled", "settled_from", "may_have_root", "roots_between", "roots_from", "free_from", "Fraction", "trimmed", "content", "Poly", "_law_numbers", "_law_is_integer", "_law_product", "_law_sorted_roots", "_law_refuse"]) (d := HandSHeadRun.topDef G.Rw.prog 25) (kwd := []) G.ob_eq
    G.run (by kernel_rfl) (by kernel_rfl) (by kernel_rfl) (by rfl) (by first | assumption | decide +kernel) (by decide +kernel) ⟨rfl, rfl, rfl, rfl, rfl, by decide +kernel⟩ ?hw ?hc
  case hw => w_witness2
  case hc =>
    refine Pd.walk_end (l := PySem.Challenge.rw_certsums_k14_roots_from) (m := 63) (k := 41) (x := "_law_script") rfl (by decide) (by kernel_rfl) ⟨rfl, by decide, by decide⟩ ?_
    intro w mg fa h Y Gm hmg0
    obtain ⟨K, KX, c⟩ := Y
    have hmg : mg ("law" : PySem.Str) = some (.ref fa) := by
      have e : (HandSHeadRun.topDef G.Rw.prog 25).name = ("law" : PySem.Str) := by kernel_rfl
      rw [← e]
      exact hmg0
    obtain ⟨fd, F, hb⟩ := Pd.law_of KX Gm c hmg 16 35 (d := G.h_law) rfl rfl rfl rfl (p := "_law_script") (fun _ _ _ _ _ _ us hl => match us, hl with | [_], _ => rfl)
    exact ⟨K, G.tab K, fd, G.f_law, KX, hb, fun ns hl hbits => G.law_true ns hl hbits, fun base KB GB => G.ok_law ⟨by kernel_rfl, _, KB, GB, c⟩ F⟩

