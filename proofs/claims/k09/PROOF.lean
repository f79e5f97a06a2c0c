import PyProof.Rows.All
import Wide.All
import OpenK.AllK
import Wide.FinOn
import KE.KStateDown
import HandS.ForMost
import HandS.ForExc
import HandS.Wide
import HandS.Gcd
import HandS.Property
import HandS.IsInst
import HandS.Defaults
import HandS.MakeKw
import HandS.MakeKwOnly
import HandS.OwnEq
import HandS.RevRange
import HandS.EndBits
import HandS.HeadHook4
import HandS.SlotsOwn
import OpenK.KMeth
import KE.KOpsOwn
import HandS.ExcOwn
import HandS.ExcIs
import HandS.TryOnly
import PyProof.ExcBaseAll.ValueError
import HandS.Head0
import HandS.Head1
import HandS.Head2
import HandS.Head3
import HandS.HeadEnd
import PySem.Challenge.RW_certsums_k09_poly_shifted
set_option Elab.async false
set_option linter.all false
set_option maxRecDepth 100000
set_option maxHeartbeats 2000000
/-! PdA: values as plain data, their places in the heap, the readings by plain functions. -/
namespace Pd
open PySem PySem.Spec L2

/-- plain data -/
inductive Dt where
  | non | bl (b : Bool) | int (i : Int) | str (x : Str) | ty (n : String)
  | tup (xs : List Dt) | lst (xs : List Dt) | ins (c : Nat) (xs : List Dt)
/-- the classes: their addresses, their fields in the order of __init__ -/
structure Tab where
  ca : Nat → Addr
  fl : Nat → List Str

mutual
def Rep (K : PySem.W.Frag) (T : Tab) (Z : Hp) : Dt → V → Prop
  | .non, v => v = .non
  | .bl b, v => v = .bl b
  | .int i, v => v = .int i
  | .str x, v => v = .str x
  | .ty n, v => v = .ty n
  | .tup ds, v => ∃ p vs, v = .ref p ∧ SqT K Z p vs ∧ Reps K T Z ds vs
  | .lst ds, v => ∃ p vs, v = .ref p ∧ SqL K Z p vs ∧ Reps K T Z ds vs
  | .ins c ds, v => ∃ p dx vs, v = .ref p ∧ Z p = some (.ins (T.ca c) dx ((T.fl c).zip vs)) ∧ vs.length = (T.fl c).length ∧ Reps K T Z ds vs
def Reps (K : PySem.W.Frag) (T : Tab) (Z : Hp) : List Dt → List V → Prop
  | [], vs => vs = []
  | d :: ds, vs => ∃ v r, vs = v :: r ∧ Rep K T Z d v ∧ Reps K T Z ds r
end

def Le (H H' : Hp) : Prop := ∀ a o, H a = some o → H' a = some o
theorem Le.refl (H : Hp) : Le H H := fun _ _ h => h
theorem Le.trans {H H1 H2 : Hp} (a : Le H H1) (b : Le H1 H2) : Le H H2 := fun c o h => b c o (a c o h)
theorem Le.free {H H' : Hp} (e : Le H H') {l : Addr} (h : H' l = none) : H l = none := by
  cases q : H l with
  | none => rfl
  | some o => rw [e l o q] at h; cases h
theorem Le.ne {H H' : Hp} (e : Le H H') {l : Addr} (h : H l ≠ none) : H' l ≠ none := fun z => h (e.free z)
theorem Le.seqL {K : PySem.W.Frag} {H H' : Hp} {a : Addr} {xs : List V} (e : Le H H') (h : SqL K H a xs) : SqL K H' a xs := by
  rcases h with (h | ⟨o, h⟩) | h
  · exact .inl (.inl (e _ _ h))
  · exact .inl (.inr ⟨o, e _ _ h⟩)
  · exact .inr h
theorem Le.seqT {K : PySem.W.Frag} {H H' : Hp} {a : Addr} {xs : List V} (e : Le H H') (h : SqT K H a xs) : SqT K H' a xs := by
  rcases h with (h | ⟨o, h⟩) | h
  · exact .inl (.inl (e _ _ h))
  · exact .inl (.inr ⟨o, e _ _ h⟩)
  · exact .inr h
theorem Le.upd {H : Hp} {p : Addr} {o : HO} (h : H p = none) : Le H (upd H p o) := fun a u e => by rw [upd_ne (ne_of_none e h)]; exact e

section
variable {K : PySem.W.Frag} {T : Tab} {Z Z' : Hp}
mutual
theorem Rep.mono (e : Le Z Z') : ∀ {d : Dt} {v : V}, Rep K T Z d v → Rep K T Z' d v
  | .non, _, h => h
  | .bl _, _, h => h
  | .int _, _, h => h
  | .str _, _, h => h
  | .ty _, _, h => h
  | .tup _, _, h => by
    simp only [Rep] at h ⊢
    obtain ⟨p, vs, h1, h2, h3⟩ := h
    exact ⟨p, vs, h1, e.seqT h2, Reps.mono e h3⟩
  | .lst _, _, h => by
    simp only [Rep] at h ⊢
    obtain ⟨p, vs, h1, h2, h3⟩ := h
    exact ⟨p, vs, h1, e.seqL h2, Reps.mono e h3⟩
  | .ins _ _, _, h => by
    simp only [Rep] at h ⊢
    obtain ⟨p, dx, vs, h1, h2, h3, h4⟩ := h
    exact ⟨p, dx, vs, h1, e _ _ h2, h3, Reps.mono e h4⟩
theorem Reps.mono (e : Le Z Z') : ∀ {ds : List Dt} {vs : List V}, Reps K T Z ds vs → Reps K T Z' ds vs
  | [], _, h => h
  | _ :: _, _, h => by
    simp only [Reps] at h ⊢
    obtain ⟨v, r, h1, h2, h3⟩ := h
    exact ⟨v, r, h1, Rep.mono e h2, Reps.mono e h3⟩
end
theorem Reps.nil : Reps K T Z [] [] := by simp only [Reps]
theorem Reps.cons {d : Dt} {v : V} {ds : List Dt} {vs : List V} (h : Rep K T Z d v) (t : Reps K T Z ds vs) : Reps K T Z (d :: ds) (v :: vs) := by
  simp only [Reps]; exact ⟨v, vs, rfl, h, t⟩
theorem Reps.nil_inv {vs : List V} (h : Reps K T Z [] vs) : vs = [] := by simpa only [Reps] using h
theorem Reps.cons_inv {d : Dt} {ds : List Dt} {vs : List V} (h : Reps K T Z (d :: ds) vs) : ∃ v r, vs = v :: r ∧ Rep K T Z d v ∧ Reps K T Z ds r := by simpa only [Reps] using h
theorem Reps.length : ∀ {ds : List Dt} {vs : List V}, Reps K T Z ds vs → vs.length = ds.length
  | [], _, h => by rw [h.nil_inv]; rfl
  | _ :: _, _, h => by
    obtain ⟨v, r, rfl, _, t⟩ := h.cons_inv
    rw [List.length_cons, List.length_cons, t.length]
theorem Reps.append : ∀ {ds es : List Dt} {vs ws : List V}, Reps K T Z ds vs → Reps K T Z es ws → Reps K T Z (ds ++ es) (vs ++ ws)
  | [], _, _, _, h, t => by rw [h.nil_inv]; exact t
  | _ :: _, _, _, _, h, t => by
    obtain ⟨v, r, rfl, a, b⟩ := h.cons_inv
    exact .cons a (b.append t)
theorem Reps.get : ∀ {ds : List Dt} {vs : List V} {i : Nat} {d : Dt}, Reps K T Z ds vs → ds[i]? = some d → ∃ v, vs[i]? = some v ∧ Rep K T Z d v
  | [], _, _, _, _, e => by simp at e
  | _ :: _, _, 0, _, h, e => by
    obtain ⟨v, r, rfl, a, b⟩ := h.cons_inv
    simp at e; subst e
    exact ⟨v, rfl, a⟩
  | _ :: _, _, i + 1, _, h, e => by
    obtain ⟨v, r, rfl, a, b⟩ := h.cons_inv
    obtain ⟨x, h1, h2⟩ := b.get (i := i) (by simpa using e)
    exact ⟨x, by simpa using h1, h2⟩
theorem Reps.getv {ds : List Dt} {vs : List V} {i : Nat} {v : V} (h : Reps K T Z ds vs) (e : vs[i]? = some v) : ∃ d, ds[i]? = some d ∧ Rep K T Z d v := by
  have hl := h.length
  have hi := (List.getElem?_eq_some_iff.mp e).1
  obtain ⟨x, h1, h2⟩ := h.get (i := i) (d := ds[i]'(by omega)) (by simp)
  rw [e] at h1; cases h1
  exact ⟨_, by simp, h2⟩
theorem Reps.set : ∀ {ds : List Dt} {vs : List V} {d : Dt} {v : V} (i : Nat), Reps K T Z ds vs → Rep K T Z d v → Reps K T Z (ds.set i d) (vs.set i v)
  | [], _, _, _, _, h, _ => by rw [h.nil_inv]; exact .nil
  | _ :: _, _, _, _, 0, h, t => by
    obtain ⟨v, r, rfl, a, b⟩ := h.cons_inv
    exact .cons t b
  | _ :: _, _, _, _, i + 1, h, t => by
    obtain ⟨v, r, rfl, a, b⟩ := h.cons_inv
    exact .cons a (b.set i t)
theorem Reps.take : ∀ {ds : List Dt} {vs : List V} (n : Nat), Reps K T Z ds vs → Reps K T Z (ds.take n) (vs.take n)
  | _, _, 0, _ => by simp only [List.take_zero]; exact .nil
  | [], _, _ + 1, h => by rw [h.nil_inv]; exact .nil
  | _ :: _, _, n + 1, h => by
    obtain ⟨v, r, rfl, a, b⟩ := h.cons_inv
    exact .cons a (b.take n)
theorem Reps.drop : ∀ {ds : List Dt} {vs : List V} (n : Nat), Reps K T Z ds vs → Reps K T Z (ds.drop n) (vs.drop n)
  | _, _, 0, h => h
  | [], _, _ + 1, h => by rw [h.nil_inv]; exact .nil
  | _ :: _, _, n + 1, h => by
    obtain ⟨v, r, rfl, a, b⟩ := h.cons_inv
    exact b.drop n
theorem Reps.dropLast {ds : List Dt} {vs : List V} (h : Reps K T Z ds vs) : Reps K T Z ds.dropLast vs.dropLast := by
  rw [List.dropLast_eq_take, List.dropLast_eq_take, h.length]; exact h.take _
theorem Reps.repl {d : Dt} {v : V} (h : Rep K T Z d v) : ∀ n : Nat, Reps K T Z (List.replicate n d) (List.replicate n v)
  | 0 => .nil
  | n + 1 => by rw [List.replicate_succ, List.replicate_succ]; exact .cons h (Reps.repl h n)
theorem Reps.rep {ds : List Dt} {vs : List V} (h : Reps K T Z ds vs) : ∀ n : Nat, Reps K T Z (List.replicate n ds).flatten (List.replicate n vs).flatten
  | 0 => by simp; exact .nil
  | n + 1 => by rw [List.replicate_succ, List.replicate_succ, List.flatten_cons, List.flatten_cons]; exact h.append (Reps.rep h n)
theorem Reps.ints : ∀ {ns : List Int} , Reps K T Z (ns.map Dt.int) (ns.map V.int)
  | [] => .nil
  | n :: ns => .cons (by simp only [Rep]) Reps.ints
end

/-! ### how a state grows while an expression runs -/
structure Ext4 (Z H Z' H' : Hp) : Prop where
  hh : Le H H'
  zz : Le Z Z'
  zh : Le Z' H'
  st : ∀ a, H a ≠ none → Z' a = Z a
theorem Ext4.refl {Z H : Hp} (h : Le Z H) : Ext4 Z H Z H := ⟨Le.refl _, Le.refl _, h, fun _ _ => rfl⟩
theorem Ext4.trans {Z H Z1 H1 Z2 H2 : Hp} (a : Ext4 Z H Z1 H1) (b : Ext4 Z1 H1 Z2 H2) : Ext4 Z H Z2 H2 :=
  ⟨a.hh.trans b.hh, a.zz.trans b.zz, b.zh, fun c h => (b.st c (a.hh.ne h)).trans (a.st c h)⟩
/-- a new object comes, not frozen -/
theorem Ext4.new {Z H : Hp} {p : Addr} {o : HO} (h : Le Z H) (n : H p = none) : Ext4 Z H Z (upd H p o) :=
  ⟨Le.upd n, Le.refl _, h.trans (Le.upd n), fun _ _ => rfl⟩
/-- a new object comes, frozen -/
theorem Ext4.newZ {Z H : Hp} {p : Addr} {o : HO} (h : Le Z H) (n : H p = none) : Ext4 Z H (upd Z p o) (upd H p o) := by
  have nz := h.free n
  refine ⟨Le.upd n, Le.upd nz, fun a u e => ?_, fun a e => ?_⟩
  · by_cases q : a = p
    · subst q; rw [upd_same] at e ⊢; exact e
    · rw [upd_ne q] at e ⊢; exact h _ _ e
  · by_cases q : a = p
    · subst q; exact absurd n e
    · rw [upd_ne q]
/-- what stands is frozen, where it is younger than the start -/
theorem Ext4.freeze {Z H Z1 H1 : Hp} {p : Addr} {o : HO} (a : Ext4 Z H Z1 H1) (n : H p = none) (z : Z1 p = none) (h : H1 p = some o) : Ext4 Z H (upd Z1 p o) H1 := by
  refine ⟨a.hh, a.zz.trans (Le.upd z), fun b u e => ?_, fun b e => ?_⟩
  · by_cases q : b = p
    · subst q; rw [upd_same] at e; cases e; exact h
    · rw [upd_ne q] at e; exact a.zh _ _ e
  · have q : b ≠ p := fun q => e (q ▸ n)
    rw [upd_ne q]; exact a.st b e

/-! ### results -/
inductive Rs where
  | fro (d : Dt) | own (ds : List Dt) | bor (ds : List Dt)
inductive Ex (α : Type) where
  | ok (a : α) | ex (c : Nat) (ds : List Dt)
abbrev M (α : Type) := Option (Ex α)
def bnd {α β : Type} (m : M α) (k : α → M β) : M β :=
  match m with
  | none => none
  | some (.ok a) => k a
  | some (.ex c ds) => some (.ex c ds)
@[simp] theorem bnd_ok {α β : Type} (a : α) (k : α → M β) : bnd (some (.ok a)) k = k a := rfl
@[simp] theorem bnd_ex {α β : Type} (c : Nat) (ds : List Dt) (k : α → M β) : bnd (some (.ex c ds)) k = some (.ex c ds) := rfl
@[simp] theorem bnd_none {α β : Type} (k : α → M β) : bnd (none : M α) k = none := rfl
theorem bnd_cases {α β : Type} {m : M α} {k : α → M β} {out : Ex β} (h : bnd m k = some out) : (∃ c ds, m = some (.ex c ds) ∧ out = .ex c ds) ∨ (∃ r, m = some (.ok r) ∧ k r = some out) := by
  cases m with
  | none => cases h
  | some x =>
    cases x with
    | ok a => exact .inr ⟨a, rfl, h⟩
    | ex c ds => cases h; exact .inl ⟨c, ds, rfl, rfl⟩

/-- a place of the frame: a frozen value, a list of one's own, an instance that is being made -/
inductive Cel where
  | fro (d : Dt) | own (ds : List Dt) | mk (c : Nat) (ds : List Dt)
abbrev PEnv := List (Option Cel)
abbrev FE := PEnv → M Rs

def isOwnC : Option (Option Cel) → Prop
  | some (some (.own _)) => True
  | some (some (.mk _ _)) => True
  | _ => False

abbrev Hx := Hp × Addr
section
variable (K : PySem.W.Frag) (T : Tab)
def RRep (B Z H : Hp) (v : V) : Rs → Prop
  | .fro d => Rep K T Z d v
  | .own ds => ∃ p vs, v = .ref p ∧ B p = none ∧ H p = some (.lst vs) ∧ Z p = none ∧ Reps K T Z ds vs
  | .bor ds => ∃ p vs, v = .ref p ∧ H p = some (.lst vs) ∧ Reps K T Z ds vs
def CRep (B Z H : Hp) (v : V) : Cel → Prop
  | .fro d => Rep K T Z d v
  | .own ds => ∃ p vs, v = .ref p ∧ B p = none ∧ H p = some (.lst vs) ∧ Z p = none ∧ Reps K T Z ds vs
  | .mk c ds => ∃ p dx vs, v = .ref p ∧ B p = none ∧ H p = some (.ins (T.ca c) dx ((T.fl c).zip vs)) ∧ Z p = none ∧ Reps K T Z ds vs
/-- an exception that flies -/
def XRep (Z H : Hp) (cls : Value) (d : Option Addr) (c : Nat) (ds : List Dt) : Prop :=
  cls = .ref (T.ca c) ∧ ((ds = [] ∧ d = none) ∨ ∃ x dd f v, ds = [x] ∧ d = some dd ∧ T.fl c = [f] ∧ H dd = some (.xd [(f, v)]) ∧ Rep K T Z x v)
/-- a frame's state: H0, Z0.1 at its entry; Z0.2: the instance that is being made -/
structure SI (H0 : Hp) (Z0 : Hx) (env : PEnv) (σ : St) (Z H : Hp) : Prop where
  ext : Ext4 Z0.1 H0 Z H
  len : env.length = σ.length
  cell : ∀ (i : Nat) c, env[i]? = some (some c) → ∃ v, σ[i]? = some (some v) ∧ CRep K T H0 Z H v c
  sep : ∀ (i j : Nat) v, i ≠ j → isOwnC env[i]? → isOwnC env[j]? → σ[i]? = some (some v) → σ[j]? = some (some v) → False
  me : ∀ (i : Nat) c ds v, env[i]? = some (some (.mk c ds)) → σ[i]? = some (some v) → v = .ref Z0.2
end

section
variable {K : PySem.W.Frag} {T : Tab} {B Z H Z' H' Z1 H1 H0 : Hp} {Z0 : Hx} {v : V} {σ : St} {env : PEnv}
theorem RRep.step {r : Rs} (h : RRep K T B Z1 H1 v r) (e : Ext4 Z1 H1 Z' H') : RRep K T B Z' H' v r := by
  cases r with
  | fro d => exact Rep.mono e.zz h
  | own ds =>
    obtain ⟨p, vs, rfl, b, hp, zp, rs⟩ := h
    exact ⟨p, vs, rfl, b, e.hh _ _ hp, by rw [e.st p (by rw [hp]; simp)]; exact zp, rs.mono e.zz⟩
  | bor ds =>
    obtain ⟨p, vs, rfl, hp, rs⟩ := h
    exact ⟨p, vs, rfl, e.hh _ _ hp, rs.mono e.zz⟩
theorem RRep.base {B' : Hp} {r : Rs} (h : RRep K T B Z1 H1 v r) (e : Le B' B) : RRep K T B' Z1 H1 v r := by
  cases r with
  | fro d => exact h
  | own ds =>
    obtain ⟨p, vs, rfl, b, hp, zp, rs⟩ := h
    exact ⟨p, vs, rfl, e.free b, hp, zp, rs⟩
  | bor ds => exact h
theorem CRep.step {r : Cel} (h : CRep K T B Z1 H1 v r) (e : Ext4 Z1 H1 Z' H') : CRep K T B Z' H' v r := by
  cases r with
  | fro d => exact Rep.mono e.zz h
  | own ds =>
    obtain ⟨p, vs, rfl, b, hp, zp, rs⟩ := h
    exact ⟨p, vs, rfl, b, e.hh _ _ hp, by rw [e.st p (by rw [hp]; simp)]; exact zp, rs.mono e.zz⟩
  | mk c ds =>
    obtain ⟨p, dx, vs, rfl, b, hp, zp, rs⟩ := h
    exact ⟨p, dx, vs, rfl, b, e.hh _ _ hp, by rw [e.st p (by rw [hp]; simp)]; exact zp, rs.mono e.zz⟩
theorem SI.step (s : SI K T H0 Z0 env σ Z1 H1) (e : Ext4 Z1 H1 Z' H') : SI K T H0 Z0 env σ Z' H' :=
  ⟨s.ext.trans e, s.len, fun i c h => let ⟨v, h1, h2⟩ := s.cell i c h; ⟨v, h1, h2.step e⟩, s.sep, s.me⟩
theorem SI.zh (s : SI K T H0 Z0 env σ Z H) : Le Z H := s.ext.zh
end

/-- a value is taken for good: a list of one's own is frozen -/
def frz : Rs → M Dt
  | .fro d => some (.ok d)
  | .own ds => some (.ok (.lst ds))
  | .bor _ => none
@[simp] theorem frz_fro (d : Dt) : frz (.fro d) = some (.ok d) := rfl
@[simp] theorem frz_own (d : List Dt) : frz (.own d) = some (.ok (.lst d)) := rfl
@[simp] theorem frz_bor (d : List Dt) : frz (.bor d) = none := rfl
theorem RRep.freeze {K : PySem.W.Frag} {T : Tab} {Z H Z1 H1 : Hp} {v : V} {r : Rs} {d : Dt} (h : RRep K T H Z1 H1 v r) (f : frz r = some (.ok d)) (e : Ext4 Z H Z1 H1) : ∃ Z2, Ext4 Z H Z2 H1 ∧ Le Z1 Z2 ∧ Rep K T Z2 d v := by
  cases r with
  | fro d' => cases f; exact ⟨Z1, e, Le.refl _, h⟩
  | own ds =>
    cases f
    obtain ⟨p, vs, rfl, b, hp, zp, rs⟩ := h
    refine ⟨upd Z1 p (.lst vs), e.freeze b zp hp, Le.upd zp, ?_⟩
    simp only [Rep]
    exact ⟨p, vs, rfl, .of upd_same, rs.mono (Le.upd zp)⟩
  | bor ds => cases f

/-! ### an expression's reading by a plain function -/
structure Post (K : PySem.W.Frag) (T : Tab) (Z H : Hp) (σ : St) (W : WX) (Q : VK) (out : Ex Rs) : Prop where
  ok : ∀ r, out = .ok r → ∀ v Z' H', Ext4 Z H Z' H' → RRep K T H Z' H' v r → Q v H'
  ex : ∀ c ds, out = .ex c ds → ∀ cls d Z' H', Ext4 Z H Z' H' → XRep K T Z' H' cls d c ds → W cls d σ H'
theorem Post.step {K : PySem.W.Frag} {T : Tab} {Z H Z1 H1 : Hp} {σ : St} {W : WX} {Q : VK} {out : Ex Rs} (p : Post K T Z H σ W Q out) (e : Ext4 Z H Z1 H1) : Post K T Z1 H1 σ W Q out :=
  ⟨fun r h v Z' H' e' rr => p.ok r h v Z' H' (e.trans e') (rr.base e.hh), fun c ds h cls d Z' H' e' x => p.ex c ds h cls d Z' H' (e.trans e') x⟩
/-- the reading of an expression whose value is told by f -/
def tD (K : PySem.W.Frag) (T : Tab) (W : WX) (f : FE) : TE := fun σ H Q =>
  ∃ H0 Z0 env Z out, f env = some out ∧ SI K T H0 Z0 env σ Z H ∧ Post K T Z H σ W Q out
abbrev PD (X : Cx) (T : Tab) (W : WX) (e : Expr) (f : FE) : Prop := PE X e (tD X.K T W f)
theorem PE.imp {X : Cx} {e : Expr} {t t' : TE} (h : PE X e t) (i : ∀ σ H Q, t' σ H Q → t σ H Q) : PE X e t' := ⟨fun pins s σ H Q I q => h.run pins s σ H Q I (i σ H Q q)⟩

section
variable {K : PySem.W.Frag} {T : Tab} {W : WX} {H0 Z H : Hp} {Z0 : Hx} {env : PEnv} {σ : St} {Q : VK} {out : Ex Rs}
/-- a part runs, then what follows -/
theorem tD_bnd {fa : FE} {k : Rs → M Rs} {G : VK} (h : bnd (fa env) k = some out) (s : SI K T H0 Z0 env σ Z H) (p : Post K T Z H σ W Q out)
    (go : ∀ r v Z1 H1, k r = some out → Ext4 Z H Z1 H1 → RRep K T H Z1 H1 v r → SI K T H0 Z0 env σ Z1 H1 → Post K T Z1 H1 σ W Q out → G v H1) : tD K T W fa σ H G := by
  rcases bnd_cases h with ⟨c, ds, e1, e2⟩ | ⟨r, e1, e2⟩
  · exact ⟨H0, Z0, env, Z, _, e1, s, fun r q => (nomatch q), fun c' ds' q cls d Z' H' e x => p.ex c' ds' (e2.trans q) cls d Z' H' e x⟩
  · refine ⟨H0, Z0, env, Z, _, e1, s, fun r' q v Z' H' e rr => ?_, fun c' ds' q => (nomatch q)⟩
    cases q
    exact go r v Z' H' e2 e rr (s.step e) (p.step e)
/-- the same, the value taken for good -/
theorem tD_bndF {fa : FE} {k : Dt → M Rs} {G : VK} (h : bnd (fa env) (fun r => bnd (frz r) k) = some out) (s : SI K T H0 Z0 env σ Z H) (p : Post K T Z H σ W Q out)
    (go : ∀ d v Z1 H1, k d = some out → Ext4 Z H Z1 H1 → Rep K T Z1 d v → SI K T H0 Z0 env σ Z1 H1 → Post K T Z1 H1 σ W Q out → G v H1) : tD K T W fa σ H G := by
  refine tD_bnd h s p fun r v Z1 H1 hk e rr s1 p1 => ?_
  rcases bnd_cases hk with ⟨c, ds, e1, e2⟩ | ⟨d, e1, e2⟩
  · cases r <;> cases e1
  · obtain ⟨Z2, x, _, y⟩ := rr.freeze e1 e
    exact go d v Z2 H1 e2 x y (s.step x) (p.step x)
theorem Post.fro {d : Dt} {v : V} (p : Post K T Z H σ W Q (.ok (.fro d))) (zh : Le Z H) (r : Rep K T Z d v) : Q v H := p.ok _ rfl v Z H (Ext4.refl zh) r
theorem Post.own {ds : List Dt} {vs : List V} {q : Addr} (p : Post K T Z H σ W Q (.ok (.own ds))) (zh : Le Z H) (n : H q = none) (r : Reps K T Z ds vs) : Q (.ref q) (upd H q (.lst vs)) :=
  p.ok _ rfl _ Z _ (Ext4.new zh n) ⟨q, vs, rfl, n, upd_same, zh.free n, r⟩
theorem Post.tup {ds : List Dt} {vs : List V} {q : Addr} (p : Post K T Z H σ W Q (.ok (.fro (.tup ds)))) (zh : Le Z H) (n : H q = none) (r : Reps K T Z ds vs) : Q (.ref q) (upd H q (.tup vs)) := by
  refine p.ok _ rfl _ (upd Z q (.tup vs)) _ (Ext4.newZ zh n) ?_
  show Rep K T _ (.tup ds) _
  simp only [Rep]
  exact ⟨q, vs, rfl, .of upd_same, r.mono (Le.upd (zh.free n))⟩
end

/-! ### names, constants -/
def eC (d : Dt) : FE := fun _ => some (.ok (.fro d))
def eVar (i : Nat) : FE := fun ρ => match ρ[i]? with
  | some (some (.fro d)) => some (.ok (.fro d))
  | some (some (.own ds)) => some (.ok (.bor ds))
  | _ => none
section
variable {X : Cx} {T : Tab} {W : WX} {pos : Pos}
theorem pd_var (i : Nat) {x : Str} (hN : X.N[i]? = some x := by rfl) (hv : Vis X.env.scope x := by first | exact Or.inl rfl | exact Or.inr (Or.inl rfl) | exact Or.inr (Or.inr rfl)) (hd : (x == ("__debug__" : Str)) = false := by decide)
    (hcd : (x == ("__classdict__" : Str)) = false := by decide) : PD X T W (.Name x pos) (eVar i) := by
  refine PE.imp (pe_var hN hv hd hcd) fun σ H Q ⟨H0, Z0, env, Z, out, h, s, p⟩ => ?_
  unfold eVar at h
  split at h
  · rename_i d he
    cases h
    obtain ⟨v, e1, e2⟩ := s.cell i _ he
    exact ⟨v, e1, p.fro s.zh e2⟩
  · rename_i ds he
    cases h
    obtain ⟨v, e1, q, vs, rfl, b, hp, zp, rs⟩ := s.cell i _ he
    exact ⟨_, e1, p.ok _ rfl _ Z H (Ext4.refl s.zh) ⟨q, vs, rfl, hp, rs⟩⟩
  · cases h
theorem pd_c {e : Expr} {d : Dt} {v : V} (h : PE X e (tC v)) (r : ∀ Z, Rep X.K T Z d v) : PD X T W e (eC d) := by
  refine PE.imp h fun σ H Q ⟨H0, Z0, env, Z, out, h, s, p⟩ => ?_
  cases h
  exact p.fro s.zh (r Z)
theorem pd_int {i j} : PD X T W (.Constant (.int i) j pos) (eC (.int i)) := pd_c pe_int fun _ => by simp only [Rep]
theorem pd_bl {b j} : PD X T W (.Constant (.bool b) j pos) (eC (.bl b)) := pd_c pe_bl fun _ => by simp only [Rep]
theorem pd_non {j} : PD X T W (.Constant .none j pos) (eC .non) := pd_c pe_non fun _ => by simp only [Rep]
theorem pd_str {x j} : PD X T W (.Constant (.str x) j pos) (eC (.str x)) := pd_c pe_str fun _ => by simp only [Rep]
end

/-! ### operators by values -/
abbrev G2 := Rs → Rs → M Rs
abbrev G1 := Rs → M Rs
/-- an operator's reading follows from its plain function -/
def Op2 (K : PySem.W.Frag) (T : Tab) (W : WX) (r : R2) (g : G2) : Prop := ∀ (σ : St) (B Z H : Hp) (x y : Rs) (v w : V) (out : Ex Rs) (Q : VK), Le Z H → RRep K T B Z H v x → RRep K T B Z H w y → g x y = some out → Post K T Z H σ W Q out → r v w H Q
def Op1 (K : PySem.W.Frag) (T : Tab) (W : WX) (r : V → Hp → VK → Prop) (g : G1) : Prop := ∀ (σ : St) (B Z H : Hp) (x : Rs) (v : V) (out : Ex Rs) (Q : VK), Le Z H → RRep K T B Z H v x → g x = some out → Post K T Z H σ W Q out → r v H Q
def e2 (g : G2) (fa fb : FE) : FE := fun ρ => bnd (fa ρ) fun x => bnd (fb ρ) fun y => g x y
def e1 (g : G1) (fa : FE) : FE := fun ρ => bnd (fa ρ) g
section
variable {K : PySem.W.Frag} {T : Tab} {W : WX}
theorem tOp_of {r : R2} {g : G2} {fa fb : FE} (h : Op2 K T W r g) {σ : St} {H : Hp} {Q : VK} (q : tD K T W (e2 g fa fb) σ H Q) : tOp r (tD K T W fa) (tD K T W fb) σ H Q := by
  obtain ⟨H0, Z0, env, Z, out, hf, s, p⟩ := q
  refine tD_bnd hf s p fun x v Z1 H1 hk e1 r1 s1 p1 => ?_
  refine tD_bnd hk s1 p1 fun y w Z2 H2 hk2 e2 r2 s2 p2 => ?_
  exact h σ H Z2 H2 x y v w out Q e2.zh (r1.step e2) (r2.base e1.hh) hk2 p2
theorem tUn_of {r : V → Hp → VK → Prop} {g : G1} {fa : FE} (h : Op1 K T W r g) {σ : St} {H : Hp} {Q : VK} (q : tD K T W (e1 g fa) σ H Q) : tUn r (tD K T W fa) σ H Q := by
  obtain ⟨H0, Z0, env, Z, out, hf, s, p⟩ := q
  refine tD_bnd hf s p fun x v Z1 H1 hk e1 r1 s1 p1 => ?_
  exact h σ H Z1 H1 x v out Q e1.zh r1 hk p1
variable {X : Cx} {a b : Expr} {fa fb : FE} {pos : Pos}
theorem pd_op {op : Operator} {r : R2} {g : G2} (ho : OpR X (binaryOp op) r) (h : Op2 X.K T W r g) (ha : PD X T W a fa) (hb : PD X T W b fb) : PD X T W (.BinOp a op b pos) (e2 g fa fb) :=
  PE.imp (pe_op ho ha hb) fun _ _ _ q => tOp_of h q
theorem pd_un {op : UnaryOp} {r : V → Hp → VK → Prop} {g : G1} (ho : UnR X (unaryOp op) r) (h : Op1 X.K T W r g) (ha : PD X T W a fa) : PD X T W (.UnaryOp op a pos) (e1 g fa) :=
  PE.imp (pe_un ho ha) fun _ _ _ q => tUn_of h q
theorem pd_cmp {op : CmpOp} {r : R2} {g : G2} (ho : OpR X (compareOp op) r) (h : Op2 X.K T W r g) (ha : PD X T W a fa) (hb : PD X T W b fb) (hm : behindInMarks op b = false) : PD X T W (.Compare a [op] [b] pos) (e2 g fa fb) :=
  PE.imp (pe_cmpR ho ha hb hm) fun _ _ _ q => tOp_of h q
theorem pd_ix {r : R2} {g : G2} (ho : IxR X r) (h : Op2 X.K T W r g) (ha : PD X T W a fa) (hb : PD X T W b fb) (hs : PlainIx b := by exact fun _ _ => rfl) : PD X T W (.Subscript a b pos) (e2 g fa fb) :=
  PE.imp (pe_ix ho ha hb hs) fun _ _ _ q => tOp_of h q
end
/-- a plain function of two ints -/
def gII (f : Int → Int → M Rs) : G2
  | .fro (.int i), .fro (.int j) => f i j
  | _, _ => none
@[simp] theorem gII_int (f : Int → Int → M Rs) (i j : Int) : gII f (.fro (.int i)) (.fro (.int j)) = f i j := rfl
theorem gII_inv {f : Int → Int → M Rs} {x y : Rs} {out : Ex Rs} (h : gII f x y = some out) : ∃ i j, x = .fro (.int i) ∧ y = .fro (.int j) ∧ f i j = some out := by
  unfold gII at h
  split at h
  · exact ⟨_, _, rfl, rfl, h⟩
  · cases h
abbrev vI (i : Int) : M Rs := some (.ok (.fro (.int i)))
abbrev vB (b : Bool) : M Rs := some (.ok (.fro (.bl b)))
section
variable {K : PySem.W.Frag} {T : Tab} {W : WX}
theorem o2_I0 {f : Int → Int → Int} : Op2 K T W (rI0 fun i j => .int (f i j)) (gII fun i j => vI (f i j)) := fun σ B Z H x y v w out Q zh r1 r2 hg p => by
  obtain ⟨i, j, rfl, rfl, e⟩ := gII_inv hg
  cases e
  simp only [RRep, Rep] at r1 r2
  exact ⟨i, j, r1, r2, p.fro zh (by simp only [Rep])⟩
theorem o2_B0 {f : Int → Int → Bool} : Op2 K T W (rI0 fun i j => .bl (f i j)) (gII fun i j => vB (f i j)) := fun σ B Z H x y v w out Q zh r1 r2 hg p => by
  obtain ⟨i, j, rfl, rfl, e⟩ := gII_inv hg
  cases e
  simp only [RRep, Rep] at r1 r2
  exact ⟨i, j, r1, r2, p.fro zh (by simp only [Rep])⟩
theorem o2_I {C : Int → Int → Prop} {c : Int → Int → Bool} {f : Int → Int → Int} (hc : ∀ i j, c i j = true → C i j) : Op2 K T W (rI C fun i j => .int (f i j)) (gII fun i j => if c i j then vI (f i j) else none) := fun σ B Z H x y v w out Q zh r1 r2 hg p => by
  obtain ⟨i, j, rfl, rfl, e⟩ := gII_inv hg
  split at e
  · rename_i hcc
    cases e
    simp only [RRep, Rep] at r1 r2
    exact ⟨i, j, r1, r2, hc i j hcc, p.fro zh (by simp only [Rep])⟩
  · cases e
end
/-- the sizes that a product may have -/
def mulOk (i j : Int) : Bool := decide (i.natAbs.log2 + j.natAbs.log2 < 100000000)
theorem mulOk.ok {i j : Int} (h : mulOk i j = true) : IntMulOk i j := by
  have b : ∀ x : Int, Builtin.Int.intBits x ≤ x.natAbs.log2 + 1 := fun x => by
    unfold Builtin.Int.intBits
    split <;> omega
  have h1 := b i
  have h2 := b j
  have h3 : i.natAbs.log2 + j.natAbs.log2 < 100000000 := of_decide_eq_true h
  have e : bitsLine = 134217728 := by decide
  unfold IntMulOk
  intro z
  rw [Bool.and_eq_true] at z
  have z2 := z.2
  unfold Builtin.Int.intTooBig at z2
  have z3 := of_decide_eq_true z2
  rw [e] at z3
  omega
/-- the divisors that // may have -/
def divOk (i j : Int) : Bool := decide (j ≠ 0) && decide (j.natAbs.log2 < 9000)
def modOk (_ j : Int) : Bool := decide (j ≠ 0)
section
variable {X : Cx}
theorem op_mulD : OpR X (binaryOp .Mult) (rI (fun i j => mulOk i j = true) fun i j => .int (i * j)) := opI fun _ _ _ _ _ _ _ hc q => PyProof.Rows.mul_int q (mulOk.ok hc)
theorem op_fdivD : OpR X (binaryOp .FloorDiv) (rI (fun i j => divOk i j = true) fun i j => .int (i.fdiv j)) := opI fun i j _ _ _ _ _ hc q => by
  unfold divOk at hc
  rw [Bool.and_eq_true, decide_eq_true_eq, decide_eq_true_eq] at hc
  exact PyProof.Rows.floordiv_int hc.1 q (.inl (PyProof.noPylong_of_log2 hc.2))
def gAdd : G2 := gII fun i j => vI (i + j)
def gSub : G2 := gII fun i j => vI (i - j)
def gMul : G2 := gII fun i j => if mulOk i j then vI (i * j) else none
def gDiv : G2 := gII fun i j => if divOk i j then vI (i.fdiv j) else none
def gMod : G2 := gII fun i j => if modOk i j then vI (i.fmod j) else none
def powOk (i j : Int) : Bool := decide (0 ≤ j) && decide (j ≤ 1000000) && decide (i.natAbs < 2 ^ 64)
def gPow : G2 := gII fun i j => if powOk i j then vI (i ^ j.toNat) else none
def gAnd : G2 := gII fun i j => vI (Builtin.bitAnd i j)
def gLt : G2 := gII fun i j => vB (decide (i < j))
def gLe : G2 := gII fun i j => vB (decide (i ≤ j))
def gGt : G2 := gII fun i j => vB (decide (j < i))
def gGe : G2 := gII fun i j => vB (decide (j ≤ i))
variable {T : Tab} {W : WX} {a b : Expr} {fa fb : FE} {pos : Pos}
theorem pd_add (ha : PD X T W a fa) (hb : PD X T W b fb) : PD X T W (.BinOp a .Add b pos) (e2 gAdd fa fb) := pd_op op_add o2_I0 ha hb
theorem pd_sub (ha : PD X T W a fa) (hb : PD X T W b fb) : PD X T W (.BinOp a .Sub b pos) (e2 gSub fa fb) := pd_op op_sub o2_I0 ha hb
theorem pd_mul (ha : PD X T W a fa) (hb : PD X T W b fb) : PD X T W (.BinOp a .Mult b pos) (e2 gMul fa fb) := pd_op op_mulD (o2_I fun _ _ h => h) ha hb
theorem pd_div (ha : PD X T W a fa) (hb : PD X T W b fb) : PD X T W (.BinOp a .FloorDiv b pos) (e2 gDiv fa fb) := pd_op op_fdivD (o2_I fun _ _ h => h) ha hb
theorem pd_mod (ha : PD X T W a fa) (hb : PD X T W b fb) : PD X T W (.BinOp a .Mod b pos) (e2 gMod fa fb) := pd_op op_modN (o2_I fun _ _ h => of_decide_eq_true h) ha hb
theorem pd_pow (ha : PD X T W a fa) (hb : PD X T W b fb) : PD X T W (.BinOp a .Pow b pos) (e2 gPow fa fb) := pd_op op_pow (o2_I fun _ _ h => by
  unfold powOk at h
  simp only [Bool.and_eq_true, decide_eq_true_eq] at h
  exact ⟨h.1.1, h.1.2, h.2⟩) ha hb
theorem pd_and (ha : PD X T W a fa) (hb : PD X T W b fb) : PD X T W (.BinOp a .BitAnd b pos) (e2 gAnd fa fb) := pd_op op_and o2_I0 ha hb
theorem pd_lt (ha : PD X T W a fa) (hb : PD X T W b fb) : PD X T W (.Compare a [.Lt] [b] pos) (e2 gLt fa fb) := pd_cmp op_lt o2_B0 ha hb (nomark _)
theorem pd_le (ha : PD X T W a fa) (hb : PD X T W b fb) : PD X T W (.Compare a [.LtE] [b] pos) (e2 gLe fa fb) := pd_cmp op_le o2_B0 ha hb (nomark _)
theorem pd_gt (ha : PD X T W a fa) (hb : PD X T W b fb) : PD X T W (.Compare a [.Gt] [b] pos) (e2 gGt fa fb) := pd_cmp op_gt o2_B0 ha hb (nomark _)
theorem pd_ge (ha : PD X T W a fa) (hb : PD X T W b fb) : PD X T W (.Compare a [.GtE] [b] pos) (e2 gGe fa fb) := pd_cmp op_ge o2_B0 ha hb (nomark _)
end
end Pd

set_option maxHeartbeats 2000000
/-! PdB: tests, statements, a def's promise. -/
namespace Pd
open PySem PySem.Spec L2
open PyProof.Rows (envOfC)

/-! ### tests -/
abbrev FT := PEnv → M Bool
structure PostT (K : PySem.W.Frag) (T : Tab) (Z H : Hp) (σ : St) (W : WX) (Q : Bool → Hp → Prop) (out : Ex Bool) : Prop where
  ok : ∀ r, out = .ok r → ∀ Z' H', Ext4 Z H Z' H' → Q r H'
  ex : ∀ c ds, out = .ex c ds → ∀ cls d Z' H', Ext4 Z H Z' H' → XRep K T Z' H' cls d c ds → W cls d σ H'
theorem PostT.step {K : PySem.W.Frag} {T : Tab} {Z H Z1 H1 : Hp} {σ : St} {W : WX} {Q : Bool → Hp → Prop} {out : Ex Bool} (p : PostT K T Z H σ W Q out) (e : Ext4 Z H Z1 H1) : PostT K T Z1 H1 σ W Q out :=
  ⟨fun r h Z' H' e' => p.ok r h Z' H' (e.trans e'), fun c ds h cls d Z' H' e' x => p.ex c ds h cls d Z' H' (e.trans e') x⟩
def tDT (K : PySem.W.Frag) (T : Tab) (W : WX) (f : FT) : TT := fun σ H Q =>
  ∃ H0 Z0 env Z out, f env = some out ∧ SI K T H0 Z0 env σ Z H ∧ PostT K T Z H σ W Q out
abbrev PDT (X : Cx) (T : Tab) (W : WX) (e : Expr) (f : FT) : Prop := PT X e (tDT X.K T W f)
abbrev PDW (X : Cx) (T : Tab) (W : WX) (e : Expr) (f : FT) : Prop := PW X e (tDT X.K T W f)
theorem PT.imp {X : Cx} {e : Expr} {t t' : TT} (h : PT X e t) (i : ∀ σ H Q, t' σ H Q → t σ H Q) : PT X e t' := ⟨fun pins s σ H Q I q => h.run pins s σ H Q I (i σ H Q q)⟩
theorem PW.imp {X : Cx} {e : Expr} {t t' : TT} (h : PW X e t) (i : ∀ σ H Q, t' σ H Q → t σ H Q) : PW X e t' := ⟨fun wh pins s σ H Q I q => h.run wh pins s σ H Q I (i σ H Q q)⟩

section
variable {K : PySem.W.Frag} {T : Tab} {W : WX} {H0 Z H : Hp} {Z0 : Hx} {env : PEnv} {σ : St}
/-- an expression's part of anything -/
theorem tD_bndT {fa : FE} {k : Rs → M Bool} {out : Ex Bool} {Q : Bool → Hp → Prop} {G : VK} (h : bnd (fa env) k = some out) (s : SI K T H0 Z0 env σ Z H) (p : PostT K T Z H σ W Q out)
    (go : ∀ r v Z1 H1, k r = some out → Ext4 Z H Z1 H1 → RRep K T H Z1 H1 v r → SI K T H0 Z0 env σ Z1 H1 → PostT K T Z1 H1 σ W Q out → G v H1) : tD K T W fa σ H G := by
  rcases bnd_cases h with ⟨c, ds, e1, e2⟩ | ⟨r, e1, e2⟩
  · exact ⟨H0, Z0, env, Z, _, e1, s, fun r q => (nomatch q), fun c' ds' q cls d Z' H' e x => by cases q; exact p.ex _ _ e2 cls d Z' H' e x⟩
  · refine ⟨H0, Z0, env, Z, _, e1, s, fun r' q v Z' H' e rr => ?_, fun c' ds' q => (nomatch q)⟩
    cases q
    exact go r v Z' H' e2 e rr (s.step e) (p.step e)
/-- a test's part of a test -/
theorem tDT_bnd {fa : FT} {k : Bool → M Bool} {out : Ex Bool} {Q : Bool → Hp → Prop} {G : Bool → Hp → Prop} (h : bnd (fa env) k = some out) (s : SI K T H0 Z0 env σ Z H) (p : PostT K T Z H σ W Q out)
    (go : ∀ b Z1 H1, k b = some out → Ext4 Z H Z1 H1 → SI K T H0 Z0 env σ Z1 H1 → PostT K T Z1 H1 σ W Q out → G b H1) : tDT K T W fa σ H G := by
  rcases bnd_cases h with ⟨c, ds, e1, e2⟩ | ⟨r, e1, e2⟩
  · exact ⟨H0, Z0, env, Z, _, e1, s, fun r q => (nomatch q), fun c' ds' q cls d Z' H' e x => by cases q; exact p.ex _ _ e2 cls d Z' H' e x⟩
  · refine ⟨H0, Z0, env, Z, _, e1, s, fun r' q Z' H' e => ?_, fun c' ds' q => (nomatch q)⟩
    cases q
    exact go r Z' H' e2 e (s.step e) (p.step e)
/-- a test's part of an expression -/
theorem tDT_bndE {fa : FT} {k : Bool → M Rs} {out : Ex Rs} {Q : VK} {G : Bool → Hp → Prop} (h : bnd (fa env) k = some out) (s : SI K T H0 Z0 env σ Z H) (p : Post K T Z H σ W Q out)
    (go : ∀ b Z1 H1, k b = some out → Ext4 Z H Z1 H1 → SI K T H0 Z0 env σ Z1 H1 → Post K T Z1 H1 σ W Q out → G b H1) : tDT K T W fa σ H G := by
  rcases bnd_cases h with ⟨c, ds, e1, e2⟩ | ⟨r, e1, e2⟩
  · exact ⟨H0, Z0, env, Z, _, e1, s, fun r q => (nomatch q), fun c' ds' q cls d Z' H' e x => by cases q; exact p.ex _ _ e2 cls d Z' H' e x⟩
  · refine ⟨H0, Z0, env, Z, _, e1, s, fun r' q Z' H' e => ?_, fun c' ds' q => (nomatch q)⟩
    cases q
    exact go r Z' H' e2 e (s.step e) (p.step e)
end
/-- the answer as a bool -/
def asB : Rs → M Bool
  | .fro (.bl b) => some (.ok b)
  | _ => none
@[simp] theorem asB_bl (b : Bool) : asB (.fro (.bl b)) = some (.ok b) := rfl
theorem asB_inv {r : Rs} {out : Ex Bool} (h : asB r = some out) : ∃ b, r = .fro (.bl b) ∧ out = .ok b := by
  unfold asB at h
  split at h
  · cases h; exact ⟨_, rfl, rfl⟩
  · cases h
/-- the truth of a value of any kind -/
def tru : Rs → M Bool
  | .fro .non => some (.ok false)
  | .fro (.bl b) => some (.ok b)
  | .fro (.int i) => some (.ok (i != 0))
  | .fro (.lst ds) => some (.ok (!ds.isEmpty))
  | .own ds => some (.ok (!ds.isEmpty))
  | .bor ds => some (.ok (!ds.isEmpty))
  | .fro (.tup ds) => some (.ok (!ds.isEmpty))
  | _ => none
def tB (f : FE) : FT := fun ρ => bnd (f ρ) asB
def tTru (f : FE) : FT := fun ρ => bnd (f ρ) tru
def tNot (t : FT) : FT := fun ρ => bnd (t ρ) fun b => some (.ok (!b))
def tAnd (t u : FT) : FT := fun ρ => bnd (t ρ) fun b => if b then u ρ else some (.ok false)
def tOr (t u : FT) : FT := fun ρ => bnd (t ρ) fun b => if b then some (.ok true) else u ρ
def eAnd (f g : FE) : FE := fun ρ => bnd (f ρ) fun r => bnd (asB r) fun b => if b then g ρ else vB false
def eOr (f g : FE) : FE := fun ρ => bnd (f ρ) fun r => bnd (asB r) fun b => if b then vB true else g ρ
def eNot (f : FE) : FE := fun ρ => bnd (f ρ) fun r => bnd (asB r) fun b => vB (!b)
def eIf (t : FT) (f g : FE) : FE := fun ρ => bnd (t ρ) fun b => if b then f ρ else g ρ
def eChain (g g' : G2) (fa fb fc : FE) : FE := fun ρ => bnd (fa ρ) fun x => bnd (fb ρ) fun y => bnd (g x y) fun z => bnd (asB z) fun b => if b then bnd (fc ρ) fun w => g' y w else vB false

section
variable {X : Cx} {T : Tab} {W : WX} {a b c : Expr} {fa fb fc : FE} {ta tb : FT} {pos : Pos} {rest : List Expr}
theorem reps_empty {K : PySem.W.Frag} {Z : Hp} {ds : List Dt} {vs : List V} (h : Reps K T Z ds vs) : ds.isEmpty = vs.isEmpty := by
  cases ds with
  | nil => rw [h.nil_inv]; rfl
  | cons d ds => obtain ⟨v, r, rfl, _⟩ := h.cons_inv; rfl
/-- a value that is True or False, as a test (not a comparison, and, or, not) -/
theorem pdt_val (ha : PD X T W a fa) (he : ∀ whole, isTrue a X.env whole = (do let v ← whole; standAt a.pos; holding [v] (truthy v)) := by intro _; rfl) : PDT X T W a (tB fa) := by
  refine PT.imp (pt_val ha he) fun σ H Q ⟨H0, Z0, env, Z, out, h, s, p⟩ => ?_
  refine tD_bndT h s p fun r v Z1 H1 hk e1 rr s1 p1 => ?_
  obtain ⟨b, rfl, rfl⟩ := asB_inv hk
  simp only [RRep, Rep] at rr
  exact ⟨b, rr, p1.ok b rfl Z1 H1 (Ext4.refl e1.zh)⟩
theorem pdt_tru (ha : PD X T W a fa) (he : ∀ whole, isTrue a X.env whole = (do let v ← whole; standAt a.pos; holding [v] (truthy v)) := by intro _; rfl) : PDT X T W a (tTru fa) := by
  refine PT.imp (pt_truth ha he) fun σ H Q ⟨H0, Z0, env, Z, out, h, s, p⟩ => ?_
  refine tD_bndT h s p fun r v Z1 H1 hk e1 rr s1 p1 => ?_
  unfold tru at hk
  split at hk <;> first | cases hk | skip
  · simp only [RRep, Rep] at rr; subst rr; exact ⟨_, rfl, p1.ok _ rfl Z1 H1 (Ext4.refl e1.zh)⟩
  · simp only [RRep, Rep] at rr; subst rr; exact ⟨_, rfl, p1.ok _ rfl Z1 H1 (Ext4.refl e1.zh)⟩
  · simp only [RRep, Rep] at rr; subst rr; exact ⟨_, rfl, p1.ok _ rfl Z1 H1 (Ext4.refl e1.zh)⟩
  · simp only [RRep, Rep] at rr
    obtain ⟨q, vs, rfl, h1, h2⟩ := rr
    exact ⟨_, .inl ⟨vs, e1.zh.seqL h1, by rw [reps_empty h2]⟩, p1.ok _ rfl Z1 H1 (Ext4.refl e1.zh)⟩
  · obtain ⟨q, vs, rfl, _, h1, _, h2⟩ := rr
    exact ⟨_, .inl ⟨vs, .of h1, by rw [reps_empty h2]⟩, p1.ok _ rfl Z1 H1 (Ext4.refl e1.zh)⟩
  · obtain ⟨q, vs, rfl, h1, h2⟩ := rr
    exact ⟨_, .inl ⟨vs, .of h1, by rw [reps_empty h2]⟩, p1.ok _ rfl Z1 H1 (Ext4.refl e1.zh)⟩
  · simp only [RRep, Rep] at rr
    obtain ⟨q, vs, rfl, h1, h2⟩ := rr
    exact ⟨_, .inr (.inl ⟨vs, e1.zh.seqT h1, by rw [reps_empty h2]⟩), p1.ok _ rfl Z1 H1 (Ext4.refl e1.zh)⟩
theorem pdt_cmp {op : CmpOp} {r : R2} {g : G2} (ho : OpR X (compareOp op) r) (h : Op2 X.K T W r g) (ha : PD X T W a fa) (hb : PD X T W b fb) (hm : behindInMarks op b = false) : PDT X T W (.Compare a [op] [b] pos) (tB (e2 g fa fb)) := by
  refine PT.imp (pt_cmpR ho ha hb hm) fun σ H Q ⟨H0, Z0, env, Z, out, hf, s, p⟩ => ?_
  have q : tD X.K T W (e2 g fa fb) σ H fun x H' => ∃ k, x = .bl k ∧ Q k H' :=
    tD_bndT hf s p fun r v Z1 H1 hk e1 rr s1 p1 => by
      obtain ⟨b, rfl, rfl⟩ := asB_inv hk
      simp only [RRep, Rep] at rr
      exact ⟨b, rr, p1.ok b rfl Z1 H1 (Ext4.refl e1.zh)⟩
  exact tOp_of h q
theorem pdt_lt (ha : PD X T W a fa) (hb : PD X T W b fb) : PDT X T W (.Compare a [.Lt] [b] pos) (tB (e2 gLt fa fb)) := pdt_cmp op_lt o2_B0 ha hb (nomark _)
theorem pdt_le (ha : PD X T W a fa) (hb : PD X T W b fb) : PDT X T W (.Compare a [.LtE] [b] pos) (tB (e2 gLe fa fb)) := pdt_cmp op_le o2_B0 ha hb (nomark _)
theorem pdt_gt (ha : PD X T W a fa) (hb : PD X T W b fb) : PDT X T W (.Compare a [.Gt] [b] pos) (tB (e2 gGt fa fb)) := pdt_cmp op_gt o2_B0 ha hb (nomark _)
theorem pdt_ge (ha : PD X T W a fa) (hb : PD X T W b fb) : PDT X T W (.Compare a [.GtE] [b] pos) (tB (e2 gGe fa fb)) := pdt_cmp op_ge o2_B0 ha hb (nomark _)
theorem pdt_not (ha : PDT X T W a ta) : PDT X T W (.UnaryOp .Not a pos) (tNot ta) := by
  refine PT.imp (pt_not ha) fun σ H Q ⟨H0, Z0, env, Z, out, h, s, p⟩ => ?_
  refine tDT_bnd h s p fun b Z1 H1 hk e1 s1 p1 => ?_
  cases hk
  exact p1.ok _ rfl Z1 H1 (Ext4.refl e1.zh)
theorem pdw_and1 (ha : PDT X T W a ta) : PDW X T W (.BoolOp .And [a] pos) ta := pw_and1 ha
theorem pdw_or1 (ha : PDT X T W a ta) : PDW X T W (.BoolOp .Or [a] pos) ta := pw_or1 ha
theorem pdw_and (ha : PDT X T W a ta) (hb : PDW X T W (.BoolOp .And (b :: rest) pos) tb) : PDW X T W (.BoolOp .And (a :: b :: rest) pos) (tAnd ta tb) := by
  refine PW.imp (pw_and ha hb) fun σ H Q ⟨H0, Z0, env, Z, out, h, s, p⟩ => ?_
  refine tDT_bnd h s p fun b Z1 H1 hk e1 s1 p1 => ?_
  cases b with
  | true => exact iteT ⟨H0, Z0, env, Z1, out, hk, s1, p1⟩
  | false => cases hk; exact iteF (p1.ok _ rfl Z1 H1 (Ext4.refl e1.zh))
theorem pdw_or (ha : PDT X T W a ta) (hb : PDW X T W (.BoolOp .Or (b :: rest) pos) tb) : PDW X T W (.BoolOp .Or (a :: b :: rest) pos) (tOr ta tb) := by
  refine PW.imp (pw_or ha hb) fun σ H Q ⟨H0, Z0, env, Z, out, h, s, p⟩ => ?_
  refine tDT_bnd h s p fun b Z1 H1 hk e1 s1 p1 => ?_
  cases b with
  | true => cases hk; exact iteT (p1.ok _ rfl Z1 H1 (Ext4.refl e1.zh))
  | false => exact iteF ⟨H0, Z0, env, Z1, out, hk, s1, p1⟩
theorem pdt_of (h : PDW X T W a ta) : PDT X T W a ta := PW.pt h
theorem pd_one {op} (ha : PD X T W a fa) : PD X T W (.BoolOp op [a] pos) fa := pe_one ha
theorem pd_and' (ha : PD X T W a fa) (hb : PD X T W (.BoolOp .And (b :: rest) pos) fb) : PD X T W (.BoolOp .And (a :: b :: rest) pos) (eAnd fa fb) := by
  refine PE.imp (pe_and ha hb) fun σ H Q ⟨H0, Z0, env, Z, out, h, s, p⟩ => ?_
  refine tD_bnd h s p fun r v Z1 H1 hk e1 rr s1 p1 => ?_
  rcases bnd_cases hk with ⟨c, ds, q1, q2⟩ | ⟨b, q1, q2⟩
  · obtain ⟨_, _, z⟩ := asB_inv q1; cases z
  · obtain ⟨b', rfl, z⟩ := asB_inv q1; cases z
    simp only [RRep, Rep] at rr
    refine ⟨b, rr, ?_⟩
    cases b with
    | true => exact iteT ⟨H0, Z0, env, Z1, out, q2, s1, p1⟩
    | false => cases q2; exact iteF (p1.fro e1.zh (by simp only [Rep]))
theorem pd_or' (ha : PD X T W a fa) (hb : PD X T W (.BoolOp .Or (b :: rest) pos) fb) : PD X T W (.BoolOp .Or (a :: b :: rest) pos) (eOr fa fb) := by
  refine PE.imp (pe_or ha hb) fun σ H Q ⟨H0, Z0, env, Z, out, h, s, p⟩ => ?_
  refine tD_bnd h s p fun r v Z1 H1 hk e1 rr s1 p1 => ?_
  rcases bnd_cases hk with ⟨c, ds, q1, q2⟩ | ⟨b, q1, q2⟩
  · obtain ⟨_, _, z⟩ := asB_inv q1; cases z
  · obtain ⟨b', rfl, z⟩ := asB_inv q1; cases z
    simp only [RRep, Rep] at rr
    refine ⟨b, rr, ?_⟩
    cases b with
    | true => cases q2; exact iteT (p1.fro e1.zh (by simp only [Rep]))
    | false => exact iteF ⟨H0, Z0, env, Z1, out, q2, s1, p1⟩
theorem pd_not (ha : PD X T W a fa) : PD X T W (.UnaryOp .Not a pos) (eNot fa) := by
  refine PE.imp (pe_not ha) fun σ H Q ⟨H0, Z0, env, Z, out, h, s, p⟩ => ?_
  refine tD_bnd h s p fun r v Z1 H1 hk e1 rr s1 p1 => ?_
  rcases bnd_cases hk with ⟨c, ds, q1, q2⟩ | ⟨b, q1, q2⟩
  · obtain ⟨_, _, z⟩ := asB_inv q1; cases z
  · obtain ⟨b', rfl, z⟩ := asB_inv q1; cases z
    simp only [RRep, Rep] at rr
    cases q2
    exact ⟨b, rr, p1.fro e1.zh (by simp only [Rep])⟩
theorem pd_if (ht : PDT X T W c ta) (ha : PD X T W a fa) (hb : PD X T W b fb) : PD X T W (.IfExp c a b pos) (eIf ta fa fb) := by
  refine PE.imp (pe_ifExp ht ha hb) fun σ H Q ⟨H0, Z0, env, Z, out, h, s, p⟩ => ?_
  refine tDT_bndE h s p fun b Z1 H1 hk e1 s1 p1 => ?_
  cases b with
  | true => exact iteT ⟨H0, Z0, env, Z1, out, hk, s1, p1⟩
  | false => exact iteF ⟨H0, Z0, env, Z1, out, hk, s1, p1⟩
theorem chain_of {r r' : R2} {g g' : G2} (h : ∀ W', Op2 X.K T W' r g) (h' : Op2 X.K T W r' g') {σ : St} {H : Hp} {Q : VK} (q : tD X.K T W (eChain g g' fa fb fc) σ H Q) : tChain r r' (tD X.K T W fa) (tD X.K T W fb) (tD X.K T W fc) σ H Q := by
  obtain ⟨H0, Z0, env, Z, out, hf, s, p⟩ := q
  refine tD_bnd hf s p fun x v Z1 H1 hk e1 r1 s1 p1 => ?_
  refine tD_bnd hk s1 p1 fun y w Z2 H2 hk2 e2 r2 s2 p2 => ?_
  rcases bnd_cases hk2 with ⟨c, ds, q1, q2⟩ | ⟨z, q1, q2⟩
  · refine h W σ H Z2 H2 x y v w _ _ e2.zh (r1.step e2) (r2.base e1.hh) q1 ⟨fun r z => (nomatch z), fun c' ds' z cls d Z' H' e xr => ?_⟩
    exact p2.ex c' ds' (q2.trans z) cls d Z' H' e xr
  · refine h W σ H Z2 H2 x y v w _ _ e2.zh (r1.step e2) (r2.base e1.hh) q1 ⟨fun r z' u Z3 H3 e3 r3 => ?_, fun c' ds' z => (nomatch z)⟩
    cases z'
    have p3 := p2.step e3
    have s3 := s2.step e3
    rcases bnd_cases q2 with ⟨c, ds, q1, q2⟩ | ⟨b, q1, q2⟩
    · obtain ⟨_, _, z⟩ := asB_inv q1; cases z
    · obtain ⟨b', rfl, z⟩ := asB_inv q1; cases z
      simp only [RRep, Rep] at r3
      refine ⟨b, r3, ?_⟩
      cases b with
      | true =>
        refine iteT (tD_bnd q2 s3 p3 fun y' w' Z4 H4 hk4 e4 r4 s4 p4 => ?_)
        exact h' σ H Z4 H4 y y' w w' out Q e4.zh ((r2.step e3).step e4 |>.base e1.hh) (r4.base (e1.hh.trans (e2.hh.trans e3.hh))) hk4 p4
      | false => cases q2; exact iteF (p3.fro e3.zh (by simp only [Rep]))
theorem pd_chain {op op' : CmpOp} {r r' : R2} {g g' : G2} (ho : OpR X (compareOp op) r) (ho' : OpR X (compareOp op') r') (h : ∀ W', Op2 X.K T W' r g) (h' : Op2 X.K T W r' g') (ha : PD X T W a fa) (hb : PD X T W b fb) (hc : PD X T W c fc)
    (hm : lastMarks [op, op'] [b, c] = false := by with_unfolding_all rfl) : PD X T W (.Compare a [op, op'] [b, c] pos) (eChain g g' fa fb fc) :=
  PE.imp (pe_chain ho ho' ha hb hc hm) fun _ _ _ q => chain_of h h' q
theorem pdt_chain {op op' : CmpOp} {r r' : R2} {g g' : G2} (ho : OpR X (compareOp op) r) (ho' : OpR X (compareOp op') r') (h : ∀ W', Op2 X.K T W' r g) (h' : Op2 X.K T W r' g') (ha : PD X T W a fa) (hb : PD X T W b fb) (hc : PD X T W c fc)
    (hm : lastMarks [op, op'] [b, c] = false := by with_unfolding_all rfl) : PDT X T W (.Compare a [op, op'] [b, c] pos) (tB (eChain g g' fa fb fc)) := by
  refine PT.imp (pt_chain ho ho' ha hb hc hm) fun σ H Q ⟨H0, Z0, env, Z, out, hf, s, p⟩ => ?_
  have q : tD X.K T W (eChain g g' fa fb fc) σ H fun x H' => ∃ k, x = .bl k ∧ Q k H' :=
    tD_bndT hf s p fun r v Z1 H1 hk e1 rr s1 p1 => by
      obtain ⟨b, rfl, rfl⟩ := asB_inv hk
      simp only [RRep, Rep] at rr
      exact ⟨b, rr, p1.ok b rfl Z1 H1 (Ext4.refl e1.zh)⟩
  exact chain_of h h' q
theorem pdt_lele (ha : PD X T W a fa) (hb : PD X T W b fb) (hc : PD X T W c fc) (hm : lastMarks [.LtE, .LtE] [b, c] = false := by with_unfolding_all rfl) : PDT X T W (.Compare a [.LtE, .LtE] [b, c] pos) (tB (eChain gLe gLe fa fb fc)) := pdt_chain op_le op_le (fun _ => o2_B0) o2_B0 ha hb hc hm
theorem pdt_lelt (ha : PD X T W a fa) (hb : PD X T W b fb) (hc : PD X T W c fc) (hm : lastMarks [.LtE, .Lt] [b, c] = false := by with_unfolding_all rfl) : PDT X T W (.Compare a [.LtE, .Lt] [b, c] pos) (tB (eChain gLe gLt fa fb fc)) := pdt_chain op_le op_lt (fun _ => o2_B0) o2_B0 ha hb hc hm
theorem pdt_ltlt (ha : PD X T W a fa) (hb : PD X T W b fb) (hc : PD X T W c fc) (hm : lastMarks [.Lt, .Lt] [b, c] = false := by with_unfolding_all rfl) : PDT X T W (.Compare a [.Lt, .Lt] [b, c] pos) (tB (eChain gLt gLt fa fb fc)) := pdt_chain op_lt op_lt (fun _ => o2_B0) o2_B0 ha hb hc hm
theorem pdt_ltle (ha : PD X T W a fa) (hb : PD X T W b fb) (hc : PD X T W c fc) (hm : lastMarks [.Lt, .LtE] [b, c] = false := by with_unfolding_all rfl) : PDT X T W (.Compare a [.Lt, .LtE] [b, c] pos) (tB (eChain gLt gLe fa fb fc)) := pdt_chain op_lt op_le (fun _ => o2_B0) o2_B0 ha hb hc hm
end

/-! ### == and != of scalars, is None -/
/-- the scalars that == tells apart -/
def sclD : Dt → Dt → Option Bool
  | .non, .non => some true | .non, .int _ => some false | .int _, .non => some false | .non, .bl _ => some false | .bl _, .non => some false | .non, .str _ => some false | .str _, .non => some false
  | .int i, .int j => some (decide (i = j)) | .bl i, .bl j => some (decide (i = j)) | .str i, .str j => some (decide (i = j))
  | .int _, .str _ => some false | .str _, .int _ => some false | .bl _, .str _ => some false | .str _, .bl _ => some false
  | _, _ => none
def gEqS : G2
  | .fro a, .fro b => match sclD a b with | some r => vB r | none => none
  | _, _ => none
def gNeS : G2
  | .fro a, .fro b => match sclD a b with | some r => vB (!r) | none => none
  | _, _ => none
theorem sclD_ok {K : PySem.W.Frag} {T : Tab} {Z : Hp} {a b : Dt} {v w : V} {r : Bool} (h : sclD a b = some r) (h1 : Rep K T Z a v) (h2 : Rep K T Z b w) : scal v w = true ∧ decide (v = w) = r := by
  cases a <;> cases b <;> first | (cases h; done) | (simp only [Rep] at h1 h2; subst h1 h2; simp only [sclD, Option.some.injEq] at h; subst h; exact ⟨rfl, by simp⟩)
section
variable {X : Cx} {T : Tab} {W : WX} {a b c : Expr} {fa fb fc : FE} {pos : Pos}
theorem o2_eqS {K : PySem.W.Frag} : Op2 K T W rEq gEqS := fun σ B Z H x y v w out Q zh r1 r2 hg p => by
  unfold gEqS at hg
  split at hg
  · split at hg
    · rename_i r hr
      cases hg
      obtain ⟨e1, e2⟩ := sclD_ok hr r1 r2
      exact ⟨e1, by rw [e2]; exact p.fro zh (by simp only [Rep])⟩
    · cases hg
  · cases hg
theorem o2_neS {K : PySem.W.Frag} : Op2 K T W rNe gNeS := fun σ B Z H x y v w out Q zh r1 r2 hg p => by
  unfold gNeS at hg
  split at hg
  · split at hg
    · rename_i r hr
      cases hg
      obtain ⟨e1, e2⟩ := sclD_ok hr r1 r2
      exact ⟨e1, by rw [e2]; exact p.fro zh (by simp only [Rep])⟩
    · cases hg
  · cases hg
theorem pd_eqS (ha : PD X T W a fa) (hb : PD X T W b fb) : PD X T W (.Compare a [.Eq] [b] pos) (e2 gEqS fa fb) := pd_cmp op_eq o2_eqS ha hb (nomark _)
theorem pd_neS (ha : PD X T W a fa) (hb : PD X T W b fb) : PD X T W (.Compare a [.NotEq] [b] pos) (e2 gNeS fa fb) := pd_cmp op_ne o2_neS ha hb (nomark _)
theorem pdt_eqS (ha : PD X T W a fa) (hb : PD X T W b fb) : PDT X T W (.Compare a [.Eq] [b] pos) (tB (e2 gEqS fa fb)) := pdt_cmp op_eq o2_eqS ha hb (nomark _)
theorem pdt_neS (ha : PD X T W a fa) (hb : PD X T W b fb) : PDT X T W (.Compare a [.NotEq] [b] pos) (tB (e2 gNeS fa fb)) := pdt_cmp op_ne o2_neS ha hb (nomark _)
def isNon : Dt → Bool
  | .non => true
  | _ => false
theorem isNon_ok {K : PySem.W.Frag} {Z : Hp} {a : Dt} {v : V} (h : Rep K T Z a v) : decide (v = .non) = isNon a := by
  cases a <;> simp only [Rep] at h <;> first | (subst h; rfl) | (obtain ⟨_, _, rfl, _⟩ := h; rfl) | (obtain ⟨_, _, _, rfl, _⟩ := h; rfl)
def gIsN : G2
  | .fro a, .fro .non => vB (isNon a)
  | _, _ => none
def gNotN : G2
  | .fro a, .fro .non => vB (!isNon a)
  | _, _ => none
theorem o2_isN {K : PySem.W.Frag} : Op2 K T W (fun x y H Q => y = .non ∧ Q (.bl (decide (x = .non))) H) gIsN := fun σ B Z H x y v w out Q zh r1 r2 hg p => by
  unfold gIsN at hg
  split at hg
  · cases hg
    refine ⟨by simpa only [RRep, Rep] using r2, ?_⟩
    rw [isNon_ok r1]
    exact p.fro zh (by simp only [Rep])
  · cases hg
theorem o2_notN {K : PySem.W.Frag} : Op2 K T W (fun x y H Q => y = .non ∧ Q (.bl (!decide (x = .non))) H) gNotN := fun σ B Z H x y v w out Q zh r1 r2 hg p => by
  unfold gNotN at hg
  split at hg
  · cases hg
    refine ⟨by simpa only [RRep, Rep] using r2, ?_⟩
    rw [isNon_ok r1]
    exact p.fro zh (by simp only [Rep])
  · cases hg
theorem pdt_isN (ha : PD X T W a fa) (hb : PD X T W b fb) : PDT X T W (.Compare a [.Is] [b] pos) (tB (e2 gIsN fa fb)) := pdt_cmp op_isN o2_isN ha hb (nomark _)
theorem pdt_notN (ha : PD X T W a fa) (hb : PD X T W b fb) : PDT X T W (.Compare a [.IsNot] [b] pos) (tB (e2 gNotN fa fb)) := pdt_cmp op_notN o2_notN ha hb (nomark _)
/-- -x of an int -/
def gNeg : G1
  | .fro (.int i) => vI (-i)
  | _ => none
theorem pd_neg (ha : PD X T W a fa) : PD X T W (.UnaryOp .USub a pos) (e1 gNeg fa) := pd_un un_neg (fun σ B Z H x v out Q zh r1 hg p => by
  unfold gNeg at hg
  split at hg
  · cases hg
    simp only [RRep, Rep] at r1
    exact ⟨_, r1, p.fro zh (by simp only [Rep])⟩
  · cases hg) ha
end

/-! ### statements -/
inductive Out where
  | nx (env : PEnv) | rt (r : Rs) | bk (env : PEnv) | ct (env : PEnv) | xc (c : Nat) (ds : List Dt) (env : PEnv)
abbrev FS := PEnv → Option Out
structure PostS (K : PySem.W.Frag) (T : Tab) (H0 : Hp) (Z0 : Hx) (W : WX) (D : Ends) (out : Out) : Prop where
  nx : ∀ env, out = .nx env → ∀ σ Z H, SI K T H0 Z0 env σ Z H → D.nx σ H
  rt : ∀ r, out = .rt r → ∀ v Z H, Ext4 Z0.1 H0 Z H → RRep K T H0 Z H v r → D.rt v H
  bk : ∀ env, out = .bk env → ∀ σ Z H, SI K T H0 Z0 env σ Z H → D.bk σ H
  ct : ∀ env, out = .ct env → ∀ σ Z H, SI K T H0 Z0 env σ Z H → D.ct σ H
  xc : ∀ c ds env, out = .xc c ds env → ∀ cls d σ Z H, SI K T H0 Z0 env σ Z H → XRep K T Z H cls d c ds → W cls d σ H
def tDS (K : PySem.W.Frag) (T : Tab) (W : WX) (F : FS) : TS := fun D σ H => ∃ H0 Z0 env Z out, F env = some out ∧ SI K T H0 Z0 env σ Z H ∧ PostS K T H0 Z0 W D out
abbrev PDS (X : Cx) (T : Tab) (W : WX) (st : Stmt) (F : FS) : Prop := PS X st (tDS X.K T W F)
abbrev PDSs (X : Cx) (T : Tab) (W : WX) (st : List Stmt) (F : FS) : Prop := PSs X st (tDS X.K T W F)
theorem PS.imp {X : Cx} {e : Stmt} {t t' : TS} (h : PS X e t) (i : ∀ D σ H, t' D σ H → t D σ H) : PS X e t' := ⟨fun pins s σ H D I q => h.run pins s σ H D I (i D σ H q)⟩
theorem PSs.imp {X : Cx} {e : List Stmt} {t t' : TS} (h : PSs X e t) (i : ∀ D σ H, t' D σ H → t D σ H) : PSs X e t' := ⟨fun pins s σ H D I q => h.run pins s σ H D I (i D σ H q)⟩

/-- a value, then a statement's end -/
def bndS {α : Type} (ρ : PEnv) (m : M α) (k : α → Option Out) : Option Out :=
  match m with
  | none => none
  | some (.ok a) => k a
  | some (.ex c ds) => some (.xc c ds ρ)
@[simp] theorem bndS_ok {α : Type} (ρ : PEnv) (a : α) (k : α → Option Out) : bndS ρ (some (.ok a)) k = k a := rfl
@[simp] theorem bndS_ex {α : Type} (ρ : PEnv) (c : Nat) (ds : List Dt) (k : α → Option Out) : bndS ρ (some (.ex c ds)) k = some (.xc c ds ρ) := rfl
@[simp] theorem bndS_none {α : Type} (ρ : PEnv) (k : α → Option Out) : bndS ρ (none : M α) k = none := rfl
theorem bndS_cases {α : Type} {ρ : PEnv} {m : M α} {k : α → Option Out} {out : Out} (h : bndS ρ m k = some out) : (∃ c ds, m = some (.ex c ds) ∧ out = .xc c ds ρ) ∨ (∃ r, m = some (.ok r) ∧ k r = some out) := by
  cases m with
  | none => cases h
  | some x =>
    cases x with
    | ok a => exact .inr ⟨a, rfl, h⟩
    | ex c ds => cases h; exact .inl ⟨c, ds, rfl, rfl⟩
section
variable {K : PySem.W.Frag} {T : Tab} {W : WX} {H0 Z H : Hp} {Z0 : Hx} {env : PEnv} {σ : St} {D : Ends} {out : Out}
theorem tD_bndS {fa : FE} {k : Rs → Option Out} {G : VK} (h : bndS env (fa env) k = some out) (s : SI K T H0 Z0 env σ Z H) (p : PostS K T H0 Z0 W D out)
    (go : ∀ r v Z1 H1, k r = some out → Ext4 Z H Z1 H1 → RRep K T H Z1 H1 v r → SI K T H0 Z0 env σ Z1 H1 → G v H1) : tD K T W fa σ H G := by
  rcases bndS_cases h with ⟨c, ds, e1, e2⟩ | ⟨r, e1, e2⟩
  · exact ⟨H0, Z0, env, Z, _, e1, s, fun r q => (nomatch q), fun c' ds' q cls d Z' H' e x => by cases q; exact p.xc _ _ _ e2 cls d σ Z' H' (s.step e) x⟩
  · refine ⟨H0, Z0, env, Z, _, e1, s, fun r' q v Z' H' e rr => ?_, fun c' ds' q => (nomatch q)⟩
    cases q
    exact go r v Z' H' e2 e rr (s.step e)
theorem tD_bndSF {fa : FE} {k : Dt → Option Out} {G : VK} (h : bndS env (fa env) (fun r => bndS env (frz r) k) = some out) (s : SI K T H0 Z0 env σ Z H) (p : PostS K T H0 Z0 W D out)
    (go : ∀ d v Z1 H1, k d = some out → Ext4 Z H Z1 H1 → Rep K T Z1 d v → SI K T H0 Z0 env σ Z1 H1 → G v H1) : tD K T W fa σ H G := by
  refine tD_bndS h s p fun r v Z1 H1 hk e rr s1 => ?_
  rcases bndS_cases hk with ⟨c, ds, e1, e2⟩ | ⟨d, e1, e2⟩
  · cases r <;> cases e1
  · obtain ⟨Z2, x, _, y⟩ := rr.freeze e1 e
    exact go d v Z2 H1 e2 x y (s.step x)
theorem tDT_bndS {fa : FT} {k : Bool → Option Out} {G : Bool → Hp → Prop} (h : bndS env (fa env) k = some out) (s : SI K T H0 Z0 env σ Z H) (p : PostS K T H0 Z0 W D out)
    (go : ∀ b Z1 H1, k b = some out → Ext4 Z H Z1 H1 → SI K T H0 Z0 env σ Z1 H1 → G b H1) : tDT K T W fa σ H G := by
  rcases bndS_cases h with ⟨c, ds, e1, e2⟩ | ⟨r, e1, e2⟩
  · exact ⟨H0, Z0, env, Z, _, e1, s, fun r q => (nomatch q), fun c' ds' q cls d Z' H' e x => by cases q; exact p.xc _ _ _ e2 cls d σ Z' H' (s.step e) x⟩
  · refine ⟨H0, Z0, env, Z, _, e1, s, fun r' q Z' H' e => ?_, fun c' ds' q => (nomatch q)⟩
    cases q
    exact go r Z' H' e2 e (s.step e)
/-- a frozen value is put into a place -/
theorem SI.setFro (s : SI K T H0 Z0 env σ Z H) {i : Nat} {d : Dt} {v : V} (r : Rep K T Z d v) : SI K T H0 Z0 (env.set i (some (.fro d))) (σ.set i (some v)) Z H := by
  refine ⟨s.ext, by simp [s.len], fun j c h => ?_, fun j k u hjk h1 h2 h3 h4 => ?_, fun j c' ds' v' h h' => ?_⟩
  rotate_right 1
  · by_cases q : i = j
    · subst q
      by_cases hl : i < env.length
      · rw [List.getElem?_set_self hl] at h; cases h
      · rw [List.getElem?_eq_none (by simpa using hl)] at h; cases h
    · rw [List.getElem?_set_ne q] at h h'; exact s.me j _ _ _ h h'
  · by_cases q : i = j
    · subst q
      have hl : i < env.length := by
        have := (List.getElem?_eq_some_iff.mp h).1
        simpa using this
      rw [List.getElem?_set_self hl] at h
      cases h
      exact ⟨v, by rw [List.getElem?_set_self (by rw [← s.len]; exact hl)], r⟩
    · rw [List.getElem?_set_ne q] at h
      obtain ⟨u, h1, h2⟩ := s.cell j c h
      exact ⟨u, by rw [List.getElem?_set_ne q]; exact h1, h2⟩
  · have nf : ∀ m, isOwnC ((env.set i (some (.fro d)))[m]?) → i ≠ m ∧ isOwnC env[m]? := fun m hm => by
      by_cases q : i = m
      · subst q
        by_cases hl : i < env.length
        · rw [List.getElem?_set_self hl] at hm; exact hm.elim
        · rw [List.getElem?_eq_none (by simpa using hl)] at hm; exact hm.elim
      · rw [List.getElem?_set_ne q] at hm; exact ⟨q, hm⟩
    obtain ⟨a1, a2⟩ := nf j h1
    obtain ⟨b1, b2⟩ := nf k h2
    rw [List.getElem?_set_ne a1] at h3
    rw [List.getElem?_set_ne b1] at h4
    exact s.sep j k u hjk a2 b2 h3 h4
/-- a new object of one's own is put into a place: no other place holds it -/
theorem SI.setOwn (s : SI K T H0 Z0 env σ Z H) {i : Nat} {ds : List Dt} {q : Addr} (r : CRep K T H0 Z H (.ref q) (.own ds)) (n : ∀ (j : Nat), isOwnC env[j]? → σ[j]? = some (some (.ref q)) → i = j) : SI K T H0 Z0 (env.set i (some (.own ds))) (σ.set i (some (.ref q))) Z H := by
  refine ⟨s.ext, by simp [s.len], fun j c' h => ?_, fun j k u hjk h1 h2 h3 h4 => ?_, fun j c' ds' v' h h' => ?_⟩
  rotate_right 1
  · by_cases e : i = j
    · subst e
      by_cases hl : i < env.length
      · rw [List.getElem?_set_self hl] at h; cases h
      · rw [List.getElem?_eq_none (by simpa using hl)] at h; cases h
    · rw [List.getElem?_set_ne e] at h h'; exact s.me j _ _ _ h h'
  · by_cases e : i = j
    · subst e
      have hl : i < env.length := by
        have := (List.getElem?_eq_some_iff.mp h).1
        simpa using this
      rw [List.getElem?_set_self hl] at h
      cases h
      exact ⟨_, by rw [List.getElem?_set_self (by rw [← s.len]; exact hl)], r⟩
    · rw [List.getElem?_set_ne e] at h
      obtain ⟨u, h1, h2⟩ := s.cell j c' h
      exact ⟨u, by rw [List.getElem?_set_ne e]; exact h1, h2⟩
  · by_cases a : i = j
    · subst a
      have b : i ≠ k := hjk
      rw [List.getElem?_set_ne b] at h2 h4
      have hl : i < σ.length := by
        have := (List.getElem?_eq_some_iff.mp h3).1
        simpa using this
      rw [List.getElem?_set_self hl] at h3
      cases h3
      exact b (n k h2 h4)
    · rw [List.getElem?_set_ne a] at h1 h3
      by_cases b : i = k
      · subst b
        have hl : i < σ.length := by
          have := (List.getElem?_eq_some_iff.mp h4).1
          simpa using this
        rw [List.getElem?_set_self hl] at h4
        cases h4
        exact a (n j h1 h3)
      · rw [List.getElem?_set_ne b] at h2 h4
        exact s.sep j k u hjk h1 h2 h3 h4
/-- what a place of one's own holds stands in the heap -/
theorem SI.ownAt (s : SI K T H0 Z0 env σ Z H) {j : Nat} {v : V} (h : isOwnC env[j]?) (e : σ[j]? = some (some v)) : ∃ q o, v = .ref q ∧ H q = some o ∧ H0 q = none ∧ Z q = none := by
  match he : env[j]?, h with
  | some (some (.own ds)), _ =>
    obtain ⟨u, h1, q, vs, rfl, b, hq, zq, _⟩ := s.cell j _ he
    rw [e] at h1; cases h1
    exact ⟨q, _, rfl, hq, b, zq⟩
  | some (some (.mk c ds)), _ =>
    obtain ⟨u, h1, q, dx, vs, rfl, b, hq, zq, _⟩ := s.cell j _ he
    rw [e] at h1; cases h1
    exact ⟨q, _, rfl, hq, b, zq⟩
end
def celOf : Rs → Option Cel
  | .fro d => some (.fro d)
  | .own ds => some (.own ds)
  | .bor _ => none
/-- name = value -/
def sSet (i : Nat) (f : FE) : FS := fun ρ => bndS ρ (f ρ) fun r => match celOf r with
  | some c => some (.nx (ρ.set i (some c)))
  | none => none
def sSeq (F G : FS) : FS := fun ρ => match F ρ with
  | some (.nx ρ') => G ρ'
  | o => o
def sNext : FS := fun ρ => some (.nx ρ)
def sRet (f : FE) : FS := fun ρ => bndS ρ (f ρ) fun r => match r with
  | .bor _ => none
  | r => some (.rt r)
/-- return of a list of one's own -/
def sRetV (i : Nat) : FS := fun ρ => match ρ[i]? with
  | some (some (.own ds)) => some (.rt (.own ds))
  | some (some (.fro d)) => some (.rt (.fro d))
  | _ => none
def sRetN : FS := fun _ => some (.rt (.fro .non))
def sExpr (f : FE) : FS := fun ρ => bndS ρ (f ρ) fun _ => some (.nx ρ)
def sIf (t : FT) (F G : FS) : FS := fun ρ => bndS ρ (t ρ) fun b => if b then F ρ else G ρ
def sBreak : FS := fun ρ => some (.bk ρ)
def sCont : FS := fun ρ => some (.ct ρ)
/-- a list of one's own is given away -/
def frzC : Option (Option Cel) → Option Cel
  | some (some (.own ds)) => some (.fro (.lst ds))
  | some (some c) => some c
  | _ => none
def sFrz (i : Nat) (F : FS) : FS := fun ρ => match ρ[i]? with
  | some (some (.own ds)) => F (ρ.set i (some (.fro (.lst ds))))
  | _ => F ρ
section
variable {X : Cx} {T : Tab} {W : WX} {st : Stmt} {rest : List Stmt} {e : Expr} {f : FE} {F G : FS} {pos : Pos}
theorem pds_set (i : Nat) {x : Str} {pos' : Pos} (hN : X.N.Nodup) (he : PD X T W e f) (hi : X.N[i]? = some x := by rfl) (hx : Loc X.env.scope x := by first | exact Or.inl rfl | exact Or.inr rfl) (hs : swapsWith e (some (.Name x pos')) pos.line X.env = pure false := by rfl)
    (hf : X.fn x = true ∨ X.env.scope.names.lookup x = some .local := by first | exact .inl rfl | exact .inr rfl) : PDS X T W (.Assign [.Name x pos'] e pos) (sSet i f) := by
  refine PS.imp (ps_set hN hi hx he hs hf) fun D σ H ⟨H0, Z0, env, Z, out, h, s, p⟩ => ?_
  refine tD_bndS h s p fun r v Z1 H1 hk e1 rr s1 => ?_
  cases r with
  | fro d =>
    cases hk
    exact p.nx _ rfl _ Z1 H1 (s1.setFro rr)
  | own ds =>
    cases hk
    obtain ⟨q, vs, rfl, b, hq, zq, rs⟩ := rr
    refine p.nx _ rfl _ Z1 H1 (s1.setOwn (ds := ds) ⟨q, vs, rfl, s.ext.hh.free b, hq, zq, rs⟩ fun j hj hσ => ?_)
    obtain ⟨q', o, e', h', _⟩ := s.ownAt hj hσ
    cases e'
    rw [h'] at b; cases b
  | bor ds => cases hk
theorem pdss_nil : PDSs X T W [] sNext := PSs.imp pss_nil fun D σ H ⟨H0, Z0, env, Z, out, h, s, p⟩ => by
  cases h
  exact p.nx _ rfl σ Z H s
theorem pdss_cons (h1 : PDS X T W st F) (h2 : PDSs X T W rest G) : PDSs X T W (st :: rest) (sSeq F G) := by
  refine PSs.imp (pss_cons h1 h2) fun D σ H ⟨H0, Z0, env, Z, out, h, s, p⟩ => ?_
  unfold sSeq at h
  split at h
  · rename_i ρ' hF
    exact ⟨H0, Z0, env, Z, _, hF, s, fun env' q σ' Z' H' s' => by cases q; exact ⟨H0, Z0, _, Z', out, h, s', p⟩, fun r q => (nomatch q), fun r q => (nomatch q), fun r q => (nomatch q), fun r _ _ q => (nomatch q)⟩
  · rename_i hne
    refine ⟨H0, Z0, env, Z, out, h, s, fun env' q σ' Z' H' s' => ?_, p.rt, p.bk, p.ct, p.xc⟩
    exact absurd h (by rw [q]; exact hne env')
theorem pdss_one (h1 : PDS X T W st F) : PDSs X T W [st] F := pss_one h1
theorem pds_pass : PDS X T W (.Pass pos) sNext := PS.imp ps_pass fun D σ H ⟨H0, Z0, env, Z, out, h, s, p⟩ => by
  cases h
  exact p.nx _ rfl σ Z H s
theorem pds_break : PDS X T W (.Break pos) sBreak := PS.imp ps_break fun D σ H ⟨H0, Z0, env, Z, out, h, s, p⟩ => by
  cases h
  exact p.bk _ rfl σ Z H s
theorem pds_cont : PDS X T W (.Continue pos) sCont := PS.imp ps_continue fun D σ H ⟨H0, Z0, env, Z, out, h, s, p⟩ => by
  cases h
  exact p.ct _ rfl σ Z H s
theorem pds_ret (he : PD X T W e f) : PDS X T W (.Return (some e) pos) (sRet f) := by
  refine PS.imp (ps_ret he) fun D σ H ⟨H0, Z0, env, Z, out, h, s, p⟩ => ?_
  refine tD_bndS h s p fun r v Z1 H1 hk e1 rr s1 => ?_
  cases r with
  | fro d => cases hk; exact p.rt _ rfl v Z1 H1 s1.ext (rr.base s.ext.hh)
  | own d => cases hk; exact p.rt _ rfl v Z1 H1 s1.ext (rr.base s.ext.hh)
  | bor d => cases hk
theorem pds_retV (i : Nat) {x : Str} {pos' : Pos} (hN : X.N[i]? = some x := by rfl) (hv : Vis X.env.scope x := by first | exact Or.inl rfl | exact Or.inr (Or.inl rfl) | exact Or.inr (Or.inr rfl)) (hd : (x == ("__debug__" : Str)) = false := by decide)
    (hcd : (x == ("__classdict__" : Str)) = false := by decide) : PDS X T W (.Return (some (.Name x pos')) pos) (sRetV i) := by
  refine PS.imp (ps_ret (pe_var hN hv hd hcd)) fun D σ H ⟨H0, Z0, env, Z, out, h, s, p⟩ => ?_
  unfold sRetV at h
  split at h
  · rename_i ds he
    cases h
    obtain ⟨v, e1, r⟩ := s.cell i _ he
    exact ⟨v, e1, p.rt _ rfl v Z H s.ext r⟩
  · rename_i ds he
    cases h
    obtain ⟨v, e1, r⟩ := s.cell i _ he
    exact ⟨v, e1, p.rt _ rfl v Z H s.ext r⟩
  · cases h
theorem pds_retN : PDS X T W (.Return none pos) sRetN := PS.imp ps_retN fun D σ H ⟨H0, Z0, env, Z, out, h, s, p⟩ => by
  cases h
  exact p.rt _ rfl _ Z H s.ext (by simp only [RRep, Rep])
theorem pds_expr (he : PD X T W e f) (hs : swapsWith e none pos.line X.env = pure false := by rfl) : PDS X T W (.Expr e pos) (sExpr f) := by
  refine PS.imp (ps_expr he hs) fun D σ H ⟨H0, Z0, env, Z, out, h, s, p⟩ => ?_
  refine tD_bndS h s p fun r v Z1 H1 hk e1 rr s1 => ?_
  cases hk
  exact p.nx _ rfl σ Z1 H1 s1
theorem pds_if {t : FT} {a b : List Stmt} (ht : PDT X T W e t) (ha : PDSs X T W a F) (hb : PDSs X T W b G) : PDS X T W (.If e a b pos) (sIf t F G) := by
  refine PS.imp (ps_if ht ha hb) fun D σ H ⟨H0, Z0, env, Z, out, h, s, p⟩ => ?_
  refine tDT_bndS h s p fun b Z1 H1 hk e1 s1 => ?_
  cases b with
  | true => exact iteT ⟨H0, Z0, env, Z1, out, hk, s1, p⟩
  | false => exact iteF ⟨H0, Z0, env, Z1, out, hk, s1, p⟩
theorem frz_of {K : PySem.W.Frag} {i : Nat} {D : Ends} {σ : St} {H : Hp} (h : tDS K T W (sFrz i F) D σ H) : tDS K T W F D σ H := by
  obtain ⟨H0, Z0, env, Z, out, h, s, p⟩ := h
  unfold sFrz at h
  split at h
  · rename_i ds he
    obtain ⟨v, e1, q, vs, rfl, b, hq, zq, rs⟩ := s.cell i _ he
    have ex := s.ext.freeze b zq hq
    have lz : Le Z (upd Z q (.lst vs)) := Le.upd zq
    have hl : i < env.length := (List.getElem?_eq_some_iff.mp he).1
    have oi : isOwnC env[i]? := by rw [he]; exact True.intro
    refine ⟨H0, Z0, _, upd Z q (.lst vs), out, h, ⟨ex, by simp [s.len], fun j c hj => ?_, fun j k u hjk h1 h2 h3 h4 => ?_, fun j c' ds' v' hj h' => ?_⟩, p⟩
    rotate_right 1
    · by_cases e : i = j
      · subst e
        rw [List.getElem?_set_self hl] at hj; cases hj
      · rw [List.getElem?_set_ne e] at hj; exact s.me j _ _ _ hj h'
    · by_cases e : i = j
      · subst e
        rw [List.getElem?_set_self hl] at hj
        cases hj
        refine ⟨_, e1, ?_⟩
        show Rep K T _ (.lst ds) _
        simp only [Rep]
        exact ⟨q, vs, rfl, .of upd_same, rs.mono lz⟩
      · rw [List.getElem?_set_ne e] at hj
        obtain ⟨u, h1, h2⟩ := s.cell j c hj
        refine ⟨u, h1, ?_⟩
        cases c with
        | fro d => exact Rep.mono lz h2
        | own es =>
          obtain ⟨q2, ws, rfl, b2, hq2, zq2, rs2⟩ := h2
          have ne : q2 ≠ q := fun z => by
            subst z
            exact s.sep i j _ e oi (by rw [hj]; exact True.intro) e1 h1
          exact ⟨q2, ws, rfl, b2, hq2, by rw [upd_ne ne]; exact zq2, rs2.mono lz⟩
        | mk c es =>
          obtain ⟨q2, dx, ws, rfl, b2, hq2, zq2, rs2⟩ := h2
          have ne : q2 ≠ q := fun z => by
            subst z
            exact s.sep i j _ e oi (by rw [hj]; exact True.intro) e1 h1
          exact ⟨q2, dx, ws, rfl, b2, hq2, by rw [upd_ne ne]; exact zq2, rs2.mono lz⟩
    · have nf : ∀ m : Nat, isOwnC ((env.set i (some (.fro (.lst ds))))[m]?) → isOwnC env[m]? := fun m hm => by
        by_cases z : i = m
        · subst z; exact oi
        · rw [List.getElem?_set_ne z] at hm; exact hm
      exact s.sep j k u hjk (nf j h1) (nf k h2) h3 h4
  · exact ⟨H0, Z0, env, Z, out, h, s, p⟩
/-- ahead of a statement the list at a place is given away -/
theorem pds_frz (i : Nat) (h : PDS X T W st F) : PDS X T W st (sFrz i F) := PS.imp h fun _ _ _ q => frz_of q
theorem pdss_frz (i : Nat) {sts : List Stmt} (h : PDSs X T W sts F) : PDSs X T W sts (sFrz i F) := PSs.imp h fun _ _ _ q => frz_of q
end

/-! ### a def's promise -/
abbrev Fn := List Dt → M Rs
def spD (K : PySem.W.Frag) (T : Tab) (f : Fn) : Sp := fun vs H Q E => ∃ Z ds out, Le Z H ∧ Reps K T Z ds vs ∧ f ds = some out ∧
  (∀ r, out = .ok r → ∀ v Z' H', Ext4 Z H Z' H' → RRep K T H Z' H' v r → Q v H') ∧
  (∀ c es, out = .ex c es → ∀ cls d Z' H', Ext4 Z H Z' H' → XRep K T Z' H' cls d c es → E cls d H')
/-- what a body gives back -/
def outR : Option Out → M Rs
  | some (.rt r) => some (.ok r)
  | some (.nx _) => some (.ok (.fro .non))
  | some (.xc c ds _) => some (.ex c ds)
  | _ => none
/-- np parameters, nl other names -/
def fnD (np nl : Nat) (F : FS) : Fn := fun args => if args.length = np then outR (F (args.map (fun d => some (.fro d)) ++ List.replicate nl none)) else none
theorem fnD_len {np nl : Nat} {F : FS} {ds : List Dt} {out : Ex Rs} (h : fnD np nl F ds = some out) : ds.length = np := by
  unfold fnD at h
  split at h
  · assumption
  · cases h
section
variable {K : PySem.W.Frag} {T : Tab}
theorem SI.start {Z H : Hp} {ds : List Dt} {vs : List V} {N : List Str} {nl : Nat} (zh : Le Z H) (r : Reps K T Z ds vs) (hn : N.length = ds.length + nl) : SI K T H (Z, 0) (ds.map (fun d => some (.fro d)) ++ List.replicate nl none) (start N vs) Z H := by
  have hl := r.length
  have cellq : ∀ (i : Nat) (c : Cel), (ds.map (fun d => some (Cel.fro d)) ++ List.replicate nl none)[i]? = some (some c) → ∃ d, c = .fro d ∧ ds[i]? = some d := fun i c h => by
    by_cases hi : i < ds.length
    · rw [List.getElem?_append_left (by simpa using hi), List.getElem?_map] at h
      cases e : ds[i]? with
      | none => rw [e] at h; cases h
      | some d => rw [e] at h; cases h; exact ⟨d, rfl, rfl⟩
    · rw [List.getElem?_append_right (by simpa using hi), List.getElem?_replicate] at h
      split at h <;> cases h
  refine ⟨Ext4.refl zh, ?_, fun i c h => ?_, fun i j v _ h1 _ _ _ => ?_, fun i c ds' v h _ => ?_⟩
  rotate_right 1
  · obtain ⟨d, e, _⟩ := cellq i _ h; cases e
  · unfold L2.start
    simp only [List.length_append, List.length_map, List.length_replicate]
    omega
  · obtain ⟨d, rfl, e⟩ := cellq i c h
    obtain ⟨v, h1, h2⟩ := r.get e
    refine ⟨v, ?_, h2⟩
    unfold L2.start
    have hi : i < vs.length := (List.getElem?_eq_some_iff.mp h1).1
    rw [List.getElem?_append_left (by simpa using hi), List.getElem?_map, h1]
    rfl
  · generalize hx : (ds.map (fun d => some (Cel.fro d)) ++ List.replicate nl none)[i]? = x at h1
    match x, h1 with
    | some (some (.own es)), _ => obtain ⟨d, e, _⟩ := cellq i _ hx; cases e
    | some (some (.mk c es)), _ => obtain ⟨d, e, _⟩ := cellq i _ hx; cases e
theorem spD_len {f : Fn} {n : Nat} (hn : ∀ ds out, f ds = some out → ds.length = n) : ∀ vs H Q E, spD K T f vs H Q E → vs.length = n := fun vs H Q E h => by
  obtain ⟨Z, ds, out, zh, r, hf, _⟩ := h
  rw [r.length]
  exact hn _ _ hf
/-- the body's reading follows from the promise -/
theorem body_of {np nl : Nat} {F : FS} {N : List Str} {vs : List V} {H : Hp} {Q : VK} {E : XK} (hN : N.length = np + nl) (h : spD K T (fnD np nl F) vs H Q E) : tDS K T (fun cls d _ H => E cls d H) F { nx := fun _ H' => Q .non H', rt := Q } (start N vs) H := by
  obtain ⟨Z, ds, out, zh, r, hf, ok, ex⟩ := h
  have hl := fnD_len hf
  unfold fnD at hf
  rw [if_pos hl] at hf
  have s := SI.start (K := K) (T := T) (N := N) (nl := nl) zh r (by rw [hl]; exact hN)
  generalize hF : F (ds.map (fun d => some (.fro d)) ++ List.replicate nl none) = fo at hf
  match fo, hf with
  | some (.rt r), hf =>
    cases hf
    exact ⟨H, (Z, 0), _, Z, _, hF, s, fun _ q => (nomatch q), fun r' q v Z' H' e rr => by cases q; exact ok _ rfl v Z' H' e rr, fun _ q => (nomatch q), fun _ q => (nomatch q), fun _ _ _ q => (nomatch q)⟩
  | some (.nx ρ), hf =>
    cases hf
    exact ⟨H, (Z, 0), _, Z, _, hF, s, fun env' q σ' Z' H' s' => ok _ rfl _ Z' H' s'.ext (by simp only [RRep, Rep]), fun _ q => (nomatch q), fun _ q => (nomatch q), fun _ q => (nomatch q), fun _ _ _ q => (nomatch q)⟩
  | some (.xc c es ρ), hf =>
    cases hf
    exact ⟨H, (Z, 0), _, Z, _, hF, s, fun _ q => (nomatch q), fun _ q => (nomatch q), fun _ q => (nomatch q), fun _ q => (nomatch q), fun c' ds' env' q cls d σ' Z' H' s' x => by cases q; exact ex _ _ rfl cls d Z' H' s'.ext x⟩
  | some (.bk ρ), hf => cases hf
  | some (.ct ρ), hf => cases hf
  | none, hf => cases hf
/-- THE RULE: a def of the text and its plain function -/
theorem fnOk_of {P : Program} {w : World} {mg : Str → Option Value} {base : Heap} {x qual : Str} {params : Arguments} {body : List Stmt} {scope : Scope} {dvs : List V} {kws : List (Str × V)} {f : Addr} {fd : FuncData} {N ps : List Str} {k np nl : Nat} {F : FS}
    (Fd : FunD K x qual params body scope dvs kws f fd) (S : FnScope N ps scope) (hp : ps.length = np := by rfl) (hN : N.length = np + nl := by rfl)
    (hbody : ∀ (cdv : Value) (A : Around) (outer : List Env) (s : Shared) (H : Hp) (E : XK), Room k (A.deeper (envOfC qual scope s.heap.objs.size f cdv)) →
      Takes (cxOf (L2.CX P w) P w K mg base N qual scope f cdv A outer s H E) (fun cls d _ H => E cls d H) →
      PDSs (cxOf (L2.CX P w) P w K mg base N qual scope f cdv A outer s H E) T (fun cls d _ H => E cls d H) body F) : FnOk P w K mg base (L2.CX P w) (k + 1) f fd ps (spD K T (fnD np nl F)) := by
  refine Fd.ok S (fun vs H Q E h => (spD_len (fun _ _ => fnD_len) vs H Q E h).trans hp.symm) fun cdv A outer s H vs Q E hr h => ⟨_, hbody cdv A outer s H E hr (takes_of rfl rfl rfl rfl), body_of hN h⟩
end
end Pd

set_option maxHeartbeats 2000000
/-! PdC: arguments, calls of defs, classes made, fields, methods, properties, own operators. -/
namespace Pd
open PySem PySem.Spec L2
open PyProof.Rows (envOfC)

/-! ### arguments -/
abbrev FA := PEnv → M (List Dt)
structure PostA (K : PySem.W.Frag) (T : Tab) (Z H : Hp) (σ : St) (W : WX) (Q : List V → Hp → Prop) (out : Ex (List Dt)) : Prop where
  ok : ∀ ds, out = .ok ds → ∀ vs Z' H', Ext4 Z H Z' H' → Reps K T Z' ds vs → Q vs H'
  ex : ∀ c ds, out = .ex c ds → ∀ cls d Z' H', Ext4 Z H Z' H' → XRep K T Z' H' cls d c ds → W cls d σ H'
def tDA (K : PySem.W.Frag) (T : Tab) (W : WX) (f : FA) : TA := fun σ H Q =>
  ∃ H0 Z0 env Z out, f env = some out ∧ SI K T H0 Z0 env σ Z H ∧ PostA K T Z H σ W Q out
abbrev PDA (X : Cx) (T : Tab) (W : WX) (es : List Expr) (f : FA) : Prop := PA X es (tDA X.K T W f)
abbrev PDK (X : Cx) (T : Tab) (W : WX) (es : List Keyword) (f : FA) : Prop := PK X es (tDA X.K T W f)
theorem PA.imp {X : Cx} {e : List Expr} {t t' : TA} (h : PA X e t) (i : ∀ σ H Q, t' σ H Q → t σ H Q) : PA X e t' := ⟨fun pos pins s σ H Q I q => h.run pos pins s σ H Q I (i σ H Q q)⟩
theorem PK.imp {X : Cx} {e : List Keyword} {t t' : TA} (h : PK X e t) (i : ∀ σ H Q, t' σ H Q → t σ H Q) : PK X e t' := ⟨fun pos pins s σ H Q I q => h.run pos pins s σ H Q I (i σ H Q q)⟩
def aNil : FA := fun _ => some (.ok [])
def aCons (f : FE) (fs : FA) : FA := fun ρ => bnd (f ρ) fun r => bnd (frz r) fun d => bnd (fs ρ) fun ds => some (.ok (d :: ds))
section
variable {X : Cx} {T : Tab} {W : WX} {e : Expr} {es : List Expr} {f : FE} {fs : FA}
theorem tCons_of {K : PySem.W.Frag} {σ : St} {H : Hp} {Q : List V → Hp → Prop} (h : tDA K T W (aCons f fs) σ H Q) : tCons (tD K T W f) (tDA K T W fs) σ H Q := by
  obtain ⟨H0, Z0, env, Z, out, h, s, p⟩ := h
  rcases bnd_cases h with ⟨c, ds, e1, e2⟩ | ⟨r, e1, e2⟩
  · exact ⟨H0, Z0, env, Z, _, e1, s, fun r q => (nomatch q), fun c' ds' q cls d Z' H' e x => by cases q; exact p.ex _ _ e2 cls d Z' H' e x⟩
  · refine ⟨H0, Z0, env, Z, _, e1, s, fun r' q v Z1 H1 x1 rr => ?_, fun c' ds' q => (nomatch q)⟩
    cases q
    rcases bnd_cases e2 with ⟨c, ds, q1, q2⟩ | ⟨d, q1, q2⟩
    · cases r <;> cases q1
    · obtain ⟨Z2, x2, _, rd⟩ := rr.freeze q1 x1
      rcases bnd_cases q2 with ⟨c, ds, q3, q4⟩ | ⟨ds, q3, q4⟩
      · exact ⟨H0, Z0, env, Z2, _, q3, s.step x2, fun r q => (nomatch q), fun c' ds' q cls d Z' H' e x => by cases q; exact p.ex _ _ q4 cls d Z' H' (x2.trans e) x⟩
      · refine ⟨H0, Z0, env, Z2, _, q3, s.step x2, fun ds' q vs Z' H' x3 rs => ?_, fun c' ds' q => (nomatch q)⟩
        cases q
        cases q4
        exact p.ok _ rfl _ Z' H' (x2.trans x3) (.cons (rd.mono x3.zz) rs)
theorem tNil_of {K : PySem.W.Frag} {σ : St} {H : Hp} {Q : List V → Hp → Prop} (h : tDA K T W aNil σ H Q) : tNil σ H Q := by
  obtain ⟨H0, Z0, env, Z, out, h, s, p⟩ := h
  cases h
  exact p.ok _ rfl [] Z H (Ext4.refl s.zh) .nil
theorem pda_nil : PDA X T W [] aNil := PA.imp pa_nil fun _ _ _ h => tNil_of h
theorem pda_cons (h : PD X T W e f) (t : PDA X T W es fs) (hs : starEach (e :: es) X.env = (false, eval e X.env) :: starEach es X.env := by rfl) : PDA X T W (e :: es) (aCons f fs) := PA.imp (pa_cons h t hs) fun _ _ _ h => tCons_of h
theorem pdk_nil : PDK X T W [] aNil := PK.imp pk_nil fun _ _ _ h => tNil_of h
theorem pdk_cons {nm : Option Str} {kpos : Pos} {kws : List Keyword} (h : PD X T W e f) (t : PDK X T W kws fs) : PDK X T W (⟨nm, e, kpos⟩ :: kws) (aCons f fs) := PK.imp (pk_cons h t) fun _ _ _ h => tCons_of h
end

/-! ### a value that is called -/
def CallV (X : Cx) (T : Tab) (W : WX) (f : Value) (n : Nat) (ks : List Str) (fn : List Dt → List Dt → M Rs) : Prop :=
  ∀ (pins : List (Addr × Obj)) (s : Shared) (σ : St) (H Z : Hp) (us ws : List Value) (vs zs : List V) (ds es : List Dt) (out : Ex Rs) (Q : VK), Inv X pins σ H s → Le Z H → Vals vs us → Vals zs ws → Reps X.K T Z ds vs → Reps X.K T Z es zs →
    ds.length = n → es.length = ks.length → fn ds es = some out → Post X.K T Z H σ W Q out → wpAny (model X.prog X.w) X.A (call f us (ks.zip ws)) (EP X pins σ Q) X.xe s
/-- how arguments lie: gD of the positional and the keywords' data is the parameters' data -/
structure Conv (K : PySem.W.Frag) (T : Tab) (fd : FuncData) (ps : List Str) (n : Nat) (ks : List Str) (gD : List Dt → List Dt → List Dt) : Prop where
  ex : ∃ g gV, KBn K fd ps n ks g gV ∧ ∀ (Z : Hp) ds vs es zs, ds.length = n → es.length = ks.length → Reps K T Z ds vs → Reps K T Z es zs → Reps K T Z (gD ds es) (gV vs zs)
section
variable {X : Cx} {T : Tab} {W : WX} {k n : Nat} {f : Addr} {fd : FuncData} {ps ks : List Str} {fn : Fn} {gD : List Dt → List Dt → List Dt}
theorem callV_fn (F : FnOk X.prog X.w X.K X.mg X.base (L2.CX X.prog X.w) k f fd ps (spD X.K T fn)) (hr : Room k X.A) (hb : Conv X.K T fd ps n ks gD) (tk : Takes X W) : CallV X T W (.ref f) n ks fun ds es => fn (gD ds es) := by
  intro pins s σ H Z us ws vs zs ds es out Q I zh ru rw' rd re l1 l2 hf p
  obtain ⟨g, gV, B, G⟩ := hb.ex
  have r2 := G Z ds vs es zs l1 l2 rd re
  have hsp : spD X.K T fn (gV vs zs) H Q (WE W σ) := ⟨Z, gD ds es, out, zh, r2, hf, p.ok, fun c es' e cls d Z' H' x xr => p.ex c es' e cls d Z' H' x xr⟩
  have v2 := B.rel ru rw'
  have e1 : us.length = n := by rw [← ru.length, rd.length]; exact l1
  have e2 : ws.length = ks.length := by rw [← rw'.length, re.length]; exact l2
  refine wpAny_call (codeAny_mono (F.run X.A X.stack s H ⟨us, ks.zip ws⟩ (g us ws) (gV vs zs) Q (WE W σ) hr I.env0 (B.to s us ws I.kIn e1 e2) v2 hsp) fun r s' hq => ?_)
  cases r with
  | error e => exact passAt tk σ pins H s e s' I hq
  | ok fl =>
    cases fl with
    | ret u => exact I.after hq
    | next => exact False.elim hq
    | brk => exact False.elim hq
    | cont => exact False.elim hq
end

/-! ### classes -/
/-- what a class of the table must have -/
structure ClsD (K : PySem.W.Frag) (T : Tab) (c : Nat) : Prop where
  cls : Cls K (T.ca c)
  no : ∀ f ∈ T.fl c, NoAttr K (T.ca c) f
  nd : (T.fl c).Nodup
  sz : (T.fl c).length < 1000
/-- fields and their values, from the arguments -/
abbrev FI := List Dt → M (List Dt)
def mkD (c : Nat) (f : FI) : Fn := fun ds => bnd (f ds) fun fs => some (.ok (.fro (.ins c fs)))
/-- the promise of an __init__ -/
def spI (K : PySem.W.Frag) (T : Tab) (c : Nat) (f : FI) : Sp := fun vs H Q E => ∃ x dx as ds Z H00 out, vs = .ref x :: as ∧ H = upd (upd H00 dx (.own x)) x (.ins (T.ca c) dx []) ∧ H00 x = none ∧ H00 dx = none ∧ dx ≠ x ∧ Le Z H00 ∧ Reps K T Z ds as ∧ f ds = some out ∧
  (∀ fs, out = .ok fs → ∀ Z' H', Ext4 Z H00 Z' H' → Rep K T Z' (.ins c fs) (.ref x) → Q .non H') ∧
  (∀ c es, out = .ex c es → ∀ cls d Z' H', Ext4 Z H00 Z' H' → XRep K T Z' H' cls d c es → E cls d H')
theorem putF_zip {f : Str} {y : V} : ∀ {ns : List Str} {vs : List V}, ns.Nodup → ns[vs.length]? = some f → putF f y (ns.zip vs) = ns.zip (vs ++ [y])
  | [], vs, _, h => by simp at h
  | n :: ns, [], nd, h => by
    simp only [List.length_nil, List.getElem?_cons_zero, Option.some.injEq] at h
    subst h
    simp [putF]
  | n :: ns, v :: vs, nd, h => by
    have h' : ns[vs.length]? = some f := by simpa using h
    have ne : n ≠ f := fun e => (List.nodup_cons.mp nd).1 (e ▸ List.mem_of_getElem? h')
    rw [List.zip_cons_cons]
    show (if n = f then _ else (n, v) :: putF f y (ns.zip vs)) = _
    rw [if_neg ne, putF_zip (List.nodup_cons.mp nd).2 h', List.cons_append, List.zip_cons_cons]
theorem lookup_zip {f : Str} {v : V} : ∀ {ns : List Str} {vs : List V} {j : Nat}, ns.Nodup → ns[j]? = some f → vs[j]? = some v → (ns.zip vs).lookup f = some v
  | [], _, _, _, h, _ => by simp at h
  | _ :: _, [], _, _, _, h => by simp at h
  | n :: ns, w :: vs, 0, _, h1, h2 => by
    simp only [List.getElem?_cons_zero, Option.some.injEq] at h1 h2
    subst h1 h2
    simp [List.lookup]
  | n :: ns, w :: vs, j + 1, nd, h1, h2 => by
    have h1' : ns[j]? = some f := by simpa using h1
    have ne : f ≠ n := fun e => (List.nodup_cons.mp nd).1 (e ▸ List.mem_of_getElem? h1')
    rw [List.zip_cons_cons]
    have hb : (f == n) = false := beq_eq_false_iff_ne.mpr ne
    simp only [List.lookup, hb]
    exact lookup_zip (List.nodup_cons.mp nd).2 h1' (by simpa using h2)
theorem lookup_no {f : Str} : ∀ {ns : List Str} {vs : List V}, f ∉ ns → (ns.zip vs).lookup f = none
  | [], _, _ => rfl
  | _ :: _, [], _ => rfl
  | n :: ns, w :: vs, h => by
    have ne : f ≠ n := fun e => h (by simp [e])
    have hb : (f == n) = false := beq_eq_false_iff_ne.mpr ne
    rw [List.zip_cons_cons]
    simp only [List.lookup, hb]
    exact lookup_no fun z => h (List.mem_cons_of_mem _ z)
section
variable {X : Cx} {T : Tab} {W : WX} {k n c : Nat} {f : Addr} {fd : FuncData} {ps ks : List Str} {fi : FI} {gD : List Dt → List Dt → List Dt}
/-- how the arguments of C(..) lie: self ahead -/
structure ConvI (K : PySem.W.Frag) (T : Tab) (fd : FuncData) (ps : List Str) (n : Nat) (ks : List Str) (gD : List Dt → List Dt → List Dt) : Prop where
  ex : ∃ g gV, KBn K fd ps (n + 1) ks g gV ∧ ∀ (Z : Hp) x ds vs es zs, ds.length = n → es.length = ks.length → Reps K T Z ds vs → Reps K T Z es zs → ∃ as, gV (.ref x :: vs) zs = .ref x :: as ∧ Reps K T Z (gD ds es) as
theorem callV_make (M : Mk X.K (T.ca c) f) (F : FnOk X.prog X.w X.K X.mg X.base (L2.CX X.prog X.w) k f fd ps (spI X.K T c fi)) (hr : Room (k + 1) X.A) (hb : ConvI X.K T fd ps n ks gD) (tk : Takes X W) :
    CallV X T W (.ref (T.ca c)) n ks fun ds es => mkD c fi (gD ds es) := by
  intro pins s σ H Z us ws vs zs ds es out Q I zh ru rw' rd re l1 l2 hf p
  obtain ⟨g, gV, B, G⟩ := hb.ex
  have e1 : us.length = n := by rw [← ru.length, rd.length]; exact l1
  have e2 : ws.length = ks.length := by rw [← rw'.length, re.length]; exact l2
  obtain ⟨as, ga, ra⟩ := G Z (s.heap.objs.size + 1) ds vs es zs l1 l2 rd re
  have I2 := Inv.made (C := T.ca c) I
  have r1 : Vals (V.ref (s.heap.objs.size + 1) :: vs) (Value.ref (s.heap.objs.size + 1) :: us) := .cons rfl ru
  have r2 := B.rel r1 rw'
  have f1 : H (s.heap.objs.size + 1) = none := I.hok.fresh (Nat.le_succ _)
  have f2 : H s.heap.objs.size = none := I.hok.fresh (Nat.le_refl _)
  have hsp : spI X.K T c fi (gV (.ref (s.heap.objs.size + 1) :: vs) zs) (upd (upd H s.heap.objs.size (.own (s.heap.objs.size + 1))) (s.heap.objs.size + 1) (.ins (T.ca c) s.heap.objs.size [])) (fun v H' => v = .non ∧ Q (.ref (s.heap.objs.size + 1)) H') (WE W σ) := by
    unfold mkD at hf
    rcases bnd_cases hf with ⟨c', ds', q1, q2⟩ | ⟨fs, q1, q2⟩
    · exact ⟨_, _, as, gD ds es, Z, H, _, ga, rfl, f1, f2, Nat.ne_of_lt (Nat.lt_succ_self _), zh, ra, q1, fun fs q => (nomatch q), fun c2 es2 q cls d Z' H' x xr => by cases q; exact p.ex _ _ q2 cls d Z' H' x xr⟩
    · refine ⟨_, _, as, gD ds es, Z, H, _, ga, rfl, f1, f2, Nat.ne_of_lt (Nat.lt_succ_self _), zh, ra, q1, fun fs' q Z' H' x xr => ?_, fun c2 es2 q => (nomatch q)⟩
      cases q
      cases q2
      exact ⟨rfl, p.ok _ rfl _ Z' H' x xr⟩
  refine wpAny_call (make_map (f := f) I.kIn M.makes M.init (beq_iff_eq.mp M.fn) (codeAny_mono (F.run _ X.stack _ _ ⟨Value.ref (s.heap.objs.size + 1) :: us, ks.zip ws⟩ (g (Value.ref (s.heap.objs.size + 1) :: us) ws) _ _ (WE W σ) (hr.make (T.ca c) us (ks.zip ws))
    (I2.env0.make (T.ca c) us (ks.zip ws)) (B.to _ (Value.ref (s.heap.objs.size + 1) :: us) ws I2.kIn (by rw [List.length_cons, e1]) e2) r2 hsp) fun r s' hq' => ?_))
  cases r with
  | error e => exact passAt tk σ pins _ _ e s' I2 hq'
  | ok fl =>
    cases fl with
    | ret u =>
      obtain ⟨v, H', I3, rv, ev, q3⟩ := I2.after hq'
      subst ev
      exact ⟨rv, ⟨V.ref (s.heap.objs.size + 1), H', I3, rfl, q3⟩⟩
    | next => exact False.elim hq'
    | brk => exact False.elim hq'
    | cont => exact False.elim hq'
end

/-! ### f(..) of a module's name -/
def eCall (n m : Nat) (fn : List Dt → List Dt → M Rs) (fa fk : FA) : FE := fun ρ => bnd (fa ρ) fun ds => bnd (fk ρ) fun es => if ds.length = n ∧ es.length = m then fn ds es else none
section
variable {X : Cx} {T : Tab} {W : WX} {n : Nat} {f : Addr} {ks : List Str} {fn : List Dt → List Dt → M Rs} {x : Str} {p pos : Pos} {e : Expr} {es : List Expr} {kws : List Keyword} {fa fk : FA}
/-- the arguments run, then the call -/
theorem args_run {pins : List (Addr × Obj)} {s : Shared} {σ : St} {H : Hp} {Q : VK} {C : Value} (hc : CallV X T W C n ks fn) (I : Inv X pins σ H s) (h : tD X.K T W (eCall n ks.length fn fa fk) σ H Q) :
    tDA X.K T W fa σ H fun vs H1 => tDA X.K T W fk σ H1 fun zs H2 => ∀ (s2 : Shared) (us ws : List Value), Inv X pins σ H2 s2 → Vals vs us → Vals zs ws → wpAny (model X.prog X.w) X.A (call C us (ks.zip ws)) (EP X pins σ Q) X.xe s2 := by
  obtain ⟨H0, Z0, env, Z, out, h, s0, po⟩ := h
  unfold eCall at h
  rcases bnd_cases h with ⟨c, ds, e1, e2⟩ | ⟨ds, e1, e2⟩
  · exact ⟨H0, Z0, env, Z, _, e1, s0, fun r q => (nomatch q), fun c' ds' q cls d Z' H' e x => by cases q; exact po.ex _ _ e2 cls d Z' H' e x⟩
  · refine ⟨H0, Z0, env, Z, _, e1, s0, fun ds' q vs Z1 H1 x1 rs => ?_, fun c' ds' q => (nomatch q)⟩
    cases q
    rcases bnd_cases e2 with ⟨c, es', e3, e4⟩ | ⟨es', e3, e4⟩
    · exact ⟨H0, Z0, env, Z1, _, e3, s0.step x1, fun r q => (nomatch q), fun c' ds' q cls d Z' H' e x => by cases q; exact po.ex _ _ e4 cls d Z' H' (x1.trans e) x⟩
    · refine ⟨H0, Z0, env, Z1, _, e3, s0.step x1, fun ds' q zs Z2 H2 x2 re s2 us ws I2 ru rw' => ?_, fun c' ds' q => (nomatch q)⟩
      cases q
      split at e4
      · rename_i hl
        exact hc pins s2 σ H2 Z2 us ws vs zs ds es' out Q I2 x2.zh ru rw' (rs.mono x2.zz) re hl.1 hl.2 e4 (po.step (x1.trans x2))
      · cases e4
theorem pd_callV {u : Addr} (hc : CallV X T W (.ref u) n [] fn) (hk : PySem.W.keepIn X.K (.ref u) = true) (hg : Gl X x) (hm : X.mg x = some (.ref u)) (ha : PDA X T W (e :: es) fa)
    (hdb : (x == ("__debug__" : Str)) = false := by decide) (he : starEach (e :: es) X.env = (false, eval e X.env) :: starEach es X.env := by rfl) (hpl : (backTo pos (starEach es X.env)).any (·.1) = false := by rfl) :
    PD X T W (.Call (.Name x p) (e :: es) [] pos) (eCall n 0 fn fa aNil) := by
  refine ⟨fun pins s σ H Q I h => ?_⟩
  refine wpAny_Call_Name_kw (ld_glob I hg hm ?_ hdb)
  refine PySem.W.callWith_K (h₀ := X.base) I.ok.mod.kin hk (thn (ha.run pos pins s σ H _ I (args_run hc I h)) fun us s1 ⟨vs, H1, I1, r, q⟩ => ⟨I1.kIn, ?_⟩) he hpl
  exact tNil_of q s1 us [] I1 r .nil
theorem pd_callV0 {u : Addr} (hc : CallV X T W (.ref u) n [] fn) (hk : PySem.W.keepIn X.K (.ref u) = true) (hg : Gl X x) (hm : X.mg x = some (.ref u)) (hdb : (x == ("__debug__" : Str)) = false := by decide) :
    PD X T W (.Call (.Name x p) [] [] pos) (eCall n 0 fn aNil aNil) := by
  refine ⟨fun pins s σ H Q I h => ?_⟩
  refine wpAny_Call_Name_kw (ld_glob I hg hm ?_ hdb)
  exact PySem.W.callWith_K0 I.kIn hk (tNil_of (tNil_of (args_run hc I h)) s [] [] I .nil .nil)
theorem pd_callVk {u : Addr} (hc : CallV X T W (.ref u) n ks fn) (hk : PySem.W.keepIn X.K (.ref u) = true) (hg : Gl X x) (hm : X.mg x = some (.ref u)) (ha : PDA X T W (e :: es) fa) (hkw : PDK X T W kws fk)
    (hall : (backToKw pos (keywordEach kws X.env)).all (·.1.isSome) = true := by rfl) (hks : (backToKw pos (keywordEach kws X.env)).filterMap (·.1) = ks := by rfl)
    (hdb : (x == ("__debug__" : Str)) = false := by decide) (he : starEach (e :: es) X.env = (false, eval e X.env) :: starEach es X.env := by rfl)
    (hpl : ((backTo pos (starEach (e :: es) X.env)).any (·.1) || (backToKw pos (keywordEach kws X.env)).any (·.1.isNone)) = false := by rfl) :
    PD X T W (.Call (.Name x p) (e :: es) kws pos) (eCall n ks.length fn fa fk) := by
  refine ⟨fun pins s σ H Q I h => ?_⟩
  refine wpAny_Call_Name_kw (ld_glob I hg hm ?_ hdb)
  refine PySem.W.callWith_KW (h₀ := X.base) I.ok.mod.kin hk hall (thn (ha.run pos pins s σ H _ I (args_run hc I h)) fun us s1 ⟨vs, H1, I1, r, q⟩ => ?_) hpl he
  refine thn (hkw.run pos pins s1 σ H1 _ I1 q) fun ws s2 ⟨zs, H2, I2, rz, q2⟩ => ⟨I2.kIn, ?_⟩
  rw [hks]
  exact q2 s2 us ws I2 r rz
end

/-! ### fields -/
/-- the place of a field, by class -/
def eFld (m : Nat → Option Nat) (f : FE) : FE := e1 (fun r => match r with
  | .fro (.ins c ds) => match m c with
    | some j => match ds[j]? with
      | some d => some (.ok (.fro d))
      | none => none
    | none => none
  | _ => none) f
def gFld (m : Nat → Option Nat) : G1 := fun r => match r with
  | .fro (.ins c ds) => match m c with
    | some j => match ds[j]? with
      | some d => some (.ok (.fro d))
      | none => none
    | none => none
  | _ => none
section
variable {X : Cx} {T : Tab} {W : WX} {e o : Expr} {fa fb : FE} {f : Str} {pos pos' : Pos}
theorem pd_fld (m : Nat → Option Nat) (hm : ∀ c j, m c = some j → ClsD X.K T c ∧ (T.fl c)[j]? = some f) (he : PD X T W e fa) (hb : attributeBase e f X.env (eval e X.env) = eval e X.env := by rfl) : PD X T W (.Attribute e f pos) (e1 (gFld m) fa) := by
  refine PE.imp (pe_fld he hb) fun σ H Q ⟨H0, Z0, env, Z, out, h, s, p⟩ => ?_
  refine tD_bnd h s p fun r v Z1 H1 hk e1 rr s1 p1 => ?_
  unfold gFld at hk
  split at hk
  · split at hk
    · rename_i c ds j hj
      split at hk
      · rename_i d hd
        cases hk
        obtain ⟨C, hf⟩ := hm _ _ hj
        simp only [RRep, Rep] at rr
        obtain ⟨q, dx, vs, rfl, h1, h2, h3⟩ := rr
        obtain ⟨w, h4, h5⟩ := h3.get hd
        exact ⟨q, _, dx, _, w, rfl, e1.zh _ _ h1, C.cls, C.no _ (List.mem_of_getElem? hf), lookup_zip C.nd hf h4, p1.fro e1.zh h5⟩
      · cases hk
    · cases hk
  · cases hk
/-- self.f = value, self the instance that is being made, at place i; j fields stand -/
def sFld (i c j : Nat) (f : FE) : FS := fun ρ => bndS ρ (f ρ) fun r => bndS ρ (frz r) fun d => match ρ[i]? with
  | some (some (.mk c' ds)) => if c' = c ∧ ds.length = j then some (.nx (ρ.set i (some (.mk c (ds ++ [d]))))) else none
  | _ => none
theorem pds_fld {i c j : Nat} {x : Str} {xp : Pos} (C : ClsD X.K T c) (hj : (T.fl c)[j]? = some f) (hv : PD X T W e fa) (hN : X.N[i]? = some x := by rfl) (hvis : Vis X.env.scope x := by first | exact Or.inl rfl | exact Or.inr (Or.inl rfl) | exact Or.inr (Or.inr rfl))
    (hd : (x == ("__debug__" : Str)) = false := by decide) (hcd : (x == ("__classdict__" : Str)) = false := by decide) (hs : swapsWith e (some (.Attribute (.Name x xp) f pos')) pos.line X.env = pure false := by rfl) :
    PDS X T W (.Assign [.Attribute (.Name x xp) f pos'] e pos) (sFld i c j fa) := by
  refine PS.imp (ps_fld (pe_var hN hvis hd hcd) hv hs) fun D σ H ⟨H0, Z0, env, Z, out, h, s, p⟩ => ?_
  refine tD_bndSF h s p fun d v Z1 H1 hk e1 rd s1 => ?_
  split at hk
  · rename_i c' ds he
    split at hk
    · rename_i hc
      obtain ⟨rfl, hl⟩ := hc
      cases hk
      obtain ⟨w, h1, q, dx, vs, rfl, b, hq, zq, rs⟩ := s1.cell i _ he
      have lv : vs.length = j := by rw [rs.length]; exact hl
      refine ⟨_, h1, q, _, dx, _, rfl, hq, C.cls, C.no _ (List.mem_of_getElem? hj), Nat.lt_of_le_of_lt (by rw [List.length_zip]; exact Nat.min_le_left _ _) C.sz, ?_⟩
      rw [putF_zip C.nd (by rw [lv]; exact hj)]
      have e2 : Ext4 H0 H0 H0 H0 := Ext4.refl (Le.refl _)
      have oi : isOwnC env[i]? := by rw [he]; exact True.intro
      have hl2 : i < env.length := (List.getElem?_eq_some_iff.mp he).1
      refine p.nx _ rfl _ Z1 _ ⟨⟨fun a o h => ?_, s1.ext.zz, fun a o h => ?_, s1.ext.st⟩, by simp [s1.len], fun m cl hm' => ?_, fun m k u hmk a1 a2 a3 a4 => ?_, fun m c2 ds2 v2 hm' h' => ?_⟩
      rotate_right 1
      · by_cases z : i = m
        · subst z
          exact s1.me i _ _ _ he h'
        · rw [List.getElem?_set_ne z] at hm'; exact s1.me m _ _ _ hm' h'
      · have ne : a ≠ q := fun z => by subst z; rw [b] at h; cases h
        rw [upd_ne ne]; exact s1.ext.hh _ _ h
      · have ne : a ≠ q := fun z => by subst z; rw [zq] at h; cases h
        rw [upd_ne ne]; exact s1.ext.zh _ _ h
      · by_cases z : i = m
        · subst z
          rw [List.getElem?_set_self hl2] at hm'
          cases hm'
          exact ⟨_, h1, q, dx, _, rfl, b, upd_same, zq, rs.append (.cons rd .nil)⟩
        · rw [List.getElem?_set_ne z] at hm'
          obtain ⟨u, g1, g2⟩ := s1.cell m cl hm'
          refine ⟨u, g1, ?_⟩
          cases cl with
          | fro d => exact g2
          | own es =>
            obtain ⟨q2, ws, rfl, b2, hq2, zq2, rs2⟩ := g2
            have ne : q2 ≠ q := fun y => by
              subst y
              exact s1.sep i m _ z oi (by rw [hm']; exact True.intro) h1 g1
            exact ⟨q2, ws, rfl, b2, by rw [upd_ne ne]; exact hq2, zq2, rs2⟩
          | mk c es =>
            obtain ⟨q2, dx2, ws, rfl, b2, hq2, zq2, rs2⟩ := g2
            have ne : q2 ≠ q := fun y => by
              subst y
              exact s1.sep i m _ z oi (by rw [hm']; exact True.intro) h1 g1
            exact ⟨q2, dx2, ws, rfl, b2, by rw [upd_ne ne]; exact hq2, zq2, rs2⟩
      · have nf : ∀ r : Nat, isOwnC ((env.set i (some (.mk c' (ds ++ [d]))))[r]?) → isOwnC env[r]? := fun r hr => by
          by_cases z : i = r
          · subst z; exact oi
          · rw [List.getElem?_set_ne z] at hr; exact hr
        exact s1.sep m k u hmk (nf m a1) (nf k a2) a3 a4
    · cases hk
  · cases hk
end

/-! ### an __init__ of the text -/
def outI (c nf : Nat) : Option Out → M (List Dt)
  | some (.nx ρ) => match (ρ[0]? : Option (Option Cel)) with
    | some (some (.mk c' fs)) => if c' = c ∧ fs.length = nf then some (.ok fs) else none
    | _ => none
  | some (.xc c ds _) => some (.ex c ds)
  | _ => none
/-- self, np parameters, nl other names; nf fields -/
def fnI (c nf np nl : Nat) (F : FS) : FI := fun args => if args.length = np then outI c nf (F (some (.mk c []) :: (args.map (fun d => some (.fro d)) ++ List.replicate nl none))) else none
section
variable {K : PySem.W.Frag} {T : Tab}
theorem initOk_of {P : Program} {w : World} {mg : Str → Option Value} {base : Heap} {x qual : Str} {params : Arguments} {body : List Stmt} {scope : Scope} {dvs : List V} {kws : List (Str × V)} {f : Addr} {fd : FuncData} {N ps : List Str} {k c nf np nl : Nat} {F : FS}
    (Fd : FunD K x qual params body scope dvs kws f fd) (S : FnScope N ps scope) (hfl : (T.fl c).length = nf) (hp : ps.length = np + 1 := by rfl) (hN : N.length = np + 1 + nl := by rfl)
    (hbody : ∀ (cdv : Value) (A : Around) (outer : List Env) (s : Shared) (H : Hp) (E : XK), Room k (A.deeper (envOfC qual scope s.heap.objs.size f cdv)) →
      Takes (cxOf (L2.CX P w) P w K mg base N qual scope f cdv A outer s H E) (fun cls d _ H => E cls d H) →
      PDSs (cxOf (L2.CX P w) P w K mg base N qual scope f cdv A outer s H E) T (fun cls d _ H => E cls d H) body F) : FnOk P w K mg base (L2.CX P w) (k + 1) f fd ps (spI K T c (fnI c nf np nl F)) := by
  refine Fd.ok S (fun vs H Q E h => ?_) fun cdv A outer s H vs Q E hr h => ⟨_, hbody cdv A outer s H E hr (takes_of rfl rfl rfl rfl), ?_⟩
  · obtain ⟨x, dx, as, ds, Z, H00, out, rfl, _, _, _, _, _, rd, hf, _⟩ := h
    have hl : ds.length = np := by
      unfold fnI at hf
      split at hf
      · assumption
      · cases hf
    rw [List.length_cons, rd.length, hl, hp]
  · obtain ⟨x, dx, as, ds, Z, H00, out, rfl, rfl, nx, ndx, ne, zh, rd, hf, ok, ex⟩ := h
    have hl : ds.length = np := by
      unfold fnI at hf
      split at hf
      · assumption
      · cases hf
    unfold fnI at hf
    rw [if_pos hl] at hf
    have ndx' : (upd H00 dx (.own x)) x = none := by rw [upd_ne (Ne.symm ne)]; exact nx
    have e4 : Ext4 Z H00 Z (upd (upd H00 dx (.own x)) x (.ins (T.ca c) dx [])) := (Ext4.new zh ndx).trans (Ext4.new (zh.trans (Le.upd ndx)) ndx')
    have s : SI K T H00 (Z, x) (some (.mk c []) :: (ds.map (fun d => some (.fro d)) ++ List.replicate nl none)) (start N (.ref x :: as)) Z (upd (upd H00 dx (.own x)) x (.ins (T.ca c) dx [])) := by
      have s0 := SI.start (K := K) (T := T) (Z := Z) (H := H00) (ds := ds) (vs := as) (N := N.tail) (nl := nl) zh rd (by rw [List.length_tail, hN, hl]; omega)
      have hst : start N (.ref x :: as) = some (.ref x) :: start N.tail as := by
        unfold L2.start
        have hl2 := rd.length
        rw [List.map_cons, List.cons_append, List.length_cons, List.length_tail]
        congr 3
        omega
      rw [hst]
      refine ⟨e4, by simp [s0.len], fun i cl hi => ?_, fun i j v hij h1 h2 h3 h4 => ?_, fun i c' ds' v h h' => ?_⟩
      rotate_right 1
      · cases i with
        | zero => simpa using h'.symm
        | succ i =>
          have h1 := h
          simp only [List.getElem?_cons_succ] at h1 h'
          exact absurd (s0.me i _ _ _ h1 h') (by
            obtain ⟨v0, g1, q, dx', vs, e1, b, hq, _⟩ := s0.cell i _ h1
            intro _
            rw [b] at hq; cases hq)
      · cases i with
        | zero =>
          simp only [List.getElem?_cons_zero, Option.some.injEq] at hi
          cases hi
          refine ⟨.ref x, rfl, x, dx, [], rfl, nx, ?_, zh.free nx, .nil⟩
          rw [upd_same]
          simp
        | succ i =>
          obtain ⟨v, g1, g2⟩ := s0.cell i cl (by simpa using hi)
          exact ⟨v, by simpa using g1, CRep.step g2 e4⟩
      · have no : ∀ m : Nat, ¬ isOwnC ((ds.map (fun d => some (Cel.fro d)) ++ List.replicate nl none)[m]?) := fun m hm => by
          by_cases hi : m < ds.length
          · rw [List.getElem?_append_left (by simpa using hi), List.getElem?_map, List.getElem?_eq_getElem hi] at hm
            exact hm
          · rw [List.getElem?_append_right (by simpa using hi), List.getElem?_replicate] at hm
            split at hm <;> exact hm
        cases i with
        | succ i => exact no i (by simpa using h1)
        | zero =>
          cases j with
          | zero => exact hij rfl
          | succ j => exact no j (by simpa using h2)
    generalize hF : F (some (.mk c []) :: (ds.map (fun d => some (.fro d)) ++ List.replicate nl none)) = fo at hf
    revert hf
    rcases fo with _ | (ρ | r | ρ | ρ | ⟨c2, es2, ρ⟩)
    · intro hf; cases hf
    · intro hf
      refine ⟨H00, (Z, x), _, Z, _, hF, s, fun env' q σ' Z' H' s' => ?_, fun _ q => (nomatch q), fun _ q => (nomatch q), fun _ q => (nomatch q), fun _ _ _ q => (nomatch q)⟩
      cases q
      unfold outI at hf
      dsimp only at hf
      split at hf
      · rename_i c' fs h0
        split at hf
        · rename_i hc
          obtain ⟨rfl, hn⟩ := hc
          cases hf
          obtain ⟨v, g1, q, dx', vs, rfl, b, hq, zq, rs⟩ := s'.cell 0 _ h0
          have e5 := s'.ext.freeze b zq hq
          have ex' := s'.me 0 _ _ _ h0 g1
          cases ex'
          refine ok _ rfl _ H' e5 ?_
          simp only [Rep]
          refine ⟨_, dx', vs, rfl, upd_same, ?_, rs.mono (Le.upd zq)⟩
          rw [rs.length, hn, hfl]
        · cases hf
      · cases hf
    · intro hf; cases hf
    · intro hf; cases hf
    · intro hf; cases hf
    · intro hf
      cases hf
      exact ⟨H00, (Z, x), _, Z, _, hF, s, fun _ q => (nomatch q), fun _ q => (nomatch q), fun _ q => (nomatch q), fun _ q => (nomatch q), fun c' ds' env' q cls d σ' Z' H' s' x => by cases q; exact ex _ _ rfl cls d Z' H' s'.ext x⟩
end
end Pd

set_option maxHeartbeats 2000000
/-! PdD: lists and tuples, built-ins of ints and lists, iterators, for, while, comprehensions. -/
namespace Pd
open PySem PySem.Spec L2
open PyProof.Rows (envOfC)

/-! ### lists and tuples by values -/
def LINE : Nat := 16777216
theorem LINE_eq : LINE = sizeLine := by decide
theorem line_of {n : Nat} (h : n ≤ LINE) : n ≤ sizeLine := by rw [← LINE_eq]; exact h
def asL : Rs → Option (List Dt)
  | .fro (.lst ds) => some ds
  | .own ds => some ds
  | .bor ds => some ds
  | _ => none
def asO : Rs → Option (List Dt)
  | .own ds => some ds
  | .bor ds => some ds
  | _ => none
@[simp] theorem asL_fro (ds : List Dt) : asL (.fro (.lst ds)) = some ds := rfl
@[simp] theorem asL_own (ds : List Dt) : asL (.own ds) = some ds := rfl
@[simp] theorem asL_bor (ds : List Dt) : asL (.bor ds) = some ds := rfl
@[simp] theorem asO_own (ds : List Dt) : asO (.own ds) = some ds := rfl
@[simp] theorem asO_bor (ds : List Dt) : asO (.bor ds) = some ds := rfl
section
variable {K : PySem.W.Frag} {T : Tab} {B Z H : Hp} {v : V} {r : Rs} {ds : List Dt}
theorem RRep.list (h : RRep K T B Z H v r) (zh : Le Z H) (e : asL r = some ds) : ∃ p vs, v = .ref p ∧ SqL K H p vs ∧ Reps K T Z ds vs := by
  unfold asL at e
  split at e <;> cases e
  · simp only [RRep, Rep] at h
    obtain ⟨p, vs, rfl, h1, h2⟩ := h
    exact ⟨p, vs, rfl, zh.seqL h1, h2⟩
  · obtain ⟨p, vs, rfl, _, h1, _, h2⟩ := h
    exact ⟨p, vs, rfl, .of h1, h2⟩
  · obtain ⟨p, vs, rfl, h1, h2⟩ := h
    exact ⟨p, vs, rfl, .of h1, h2⟩
theorem RRep.lst (h : RRep K T B Z H v r) (e : asO r = some ds) : ∃ p vs, v = .ref p ∧ H p = some (.lst vs) ∧ Reps K T Z ds vs := by
  unfold asO at e
  split at e <;> cases e
  · obtain ⟨p, vs, rfl, _, h1, _, h2⟩ := h
    exact ⟨p, vs, rfl, h1, h2⟩
  · obtain ⟨p, vs, rfl, h1, h2⟩ := h
    exact ⟨p, vs, rfl, h1, h2⟩
theorem Reps.at {vs : List V} {i : Int} {d : Dt} (h : Reps K T Z ds vs) (e : atI ds i = some d) : ∃ w, atI vs i = some w ∧ Rep K T Z d w := by
  unfold atI at e ⊢
  rw [h.length]
  cases q : ixN ds.length i with
  | none => rw [q] at e; cases e
  | some j =>
    rw [q] at e
    exact h.get e
theorem Reps.cut {vs : List V} {lo hi : Option Int} (h : Reps K T Z ds vs) : Reps K T Z ((ds.drop (HT.sIx ds.length 0 lo)).take (HT.sIx ds.length ds.length hi - HT.sIx ds.length 0 lo)) (cutV vs lo hi) := by
  unfold cutV
  rw [h.length]
  exact (h.drop _).take _
end
def cutD (ds : List Dt) (lo hi : Option Int) : List Dt := (ds.drop (HT.sIx ds.length 0 lo)).take (HT.sIx ds.length ds.length hi - HT.sIx ds.length 0 lo)
/-- xs[i], t[i], s[i] -/
def gIx : G2 := fun x y => match y with
  | .fro (.int i) => match x with
    | .fro (.tup ds) => match atI ds i with
      | some d => some (.ok (.fro d))
      | none => none
    | .fro (.str z) => if z.length ≤ LINE then match atI z.cps.toList i with
      | some c => some (.ok (.fro (.str ⟨#[c]⟩)))
      | none => none else none
    | x => match asL x with
      | some ds => match atI ds i with
        | some d => some (.ok (.fro d))
        | none => none
      | none => none
  | _ => none
section
variable {K : PySem.W.Frag} {T : Tab} {W : WX}
theorem o2_ix : Op2 K T W (rIx K) gIx := fun σ B Z H x y v w out Q zh r1 r2 hg p => by
  unfold gIx at hg
  split at hg
  · simp only [RRep, Rep] at r2
    subst r2
    split at hg
    · split at hg
      · rename_i d hd
        cases hg
        simp only [RRep, Rep] at r1
        obtain ⟨q, vs, rfl, h1, h2⟩ := r1
        obtain ⟨u, h3, h4⟩ := h2.at hd
        exact .inr (.inl ⟨q, vs, _, u, rfl, rfl, zh.seqT h1, h3, p.fro zh h4⟩)
      · cases hg
    · split at hg
      · rename_i hz
        split at hg
        · rename_i c hc
          cases hg
          simp only [RRep, Rep] at r1
          subst r1
          exact .inr (.inr ⟨_, _, c, rfl, rfl, line_of hz, hc, p.fro zh (by simp only [Rep])⟩)
        · cases hg
      · cases hg
    · split at hg
      · rename_i ds hds
        split at hg
        · rename_i d hd
          cases hg
          obtain ⟨q, vs, rfl, h1, h2⟩ := r1.list zh hds
          obtain ⟨u, h3, h4⟩ := h2.at hd
          exact .inl ⟨q, vs, _, u, rfl, rfl, h1, h3, p.fro zh h4⟩
        · cases hg
      · cases hg
  · cases hg
variable {X : Cx} {a b e : Expr} {fa fb f : FE} {es : List Expr} {fs : FA} {pos : Pos} {x1 : _}
theorem pd_item (ha : PD X T W a fa) (hb : PD X T W b fb) (hs : PlainIx b := by exact fun _ _ => rfl) : PD X T W (.Subscript a b pos) (e2 gIx fa fb) := pd_ix ix_seq o2_ix ha hb hs
end
/-! ### displays -/
def eTup (fs : FA) : FE := fun ρ => bnd (fs ρ) fun ds => if ds.length ≤ LINE then some (.ok (.fro (.tup ds))) else none
def eLst (fs : FA) : FE := fun ρ => bnd (fs ρ) fun ds => if ds.length ≤ LINE then some (.ok (.own ds)) else none
section
variable {K : PySem.W.Frag} {T : Tab} {W : WX} {H0 Z H : Hp} {Z0 : Hx} {env : PEnv} {σ : St} {Q : VK} {out : Ex Rs}
theorem tDA_bnd {fa : FA} {k : List Dt → M Rs} {G : List V → Hp → Prop} (h : bnd (fa env) k = some out) (s : SI K T H0 Z0 env σ Z H) (p : Post K T Z H σ W Q out)
    (go : ∀ ds vs Z1 H1, k ds = some out → Ext4 Z H Z1 H1 → Reps K T Z1 ds vs → SI K T H0 Z0 env σ Z1 H1 → Post K T Z1 H1 σ W Q out → G vs H1) : tDA K T W fa σ H G := by
  rcases bnd_cases h with ⟨c, ds, e1, e2⟩ | ⟨r, e1, e2⟩
  · exact ⟨H0, Z0, env, Z, _, e1, s, fun r q => (nomatch q), fun c' ds' q cls d Z' H' e x => by cases q; exact p.ex _ _ e2 cls d Z' H' e x⟩
  · refine ⟨H0, Z0, env, Z, _, e1, s, fun r' q v Z' H' e rr => ?_, fun c' ds' q => (nomatch q)⟩
    cases q
    exact go r v Z' H' e2 e rr (s.step e) (p.step e)
variable {X : Cx} {a b e : Expr} {fa fb f : FE} {es : List Expr} {fs : FA} {pos : Pos}
theorem pd_tup {k : Nat} (h : PDA X T W es fs) : PD X T W (.Tuple es k pos) (eTup fs) := by
  refine PE.imp (pe_tup h) fun σ H Q ⟨H0, Z0, env, Z, out, h, s, p⟩ => ?_
  refine tDA_bnd h s p fun ds vs Z1 H1 hk e1 rs s1 p1 => ?_
  split at hk
  · rename_i hl
    cases hk
    exact ⟨by rw [rs.length]; exact line_of hl, fun q hq => p1.tup e1.zh hq rs⟩
  · cases hk
theorem pd_lst (h : PDA X T W es fs) : PD X T W (.List es pos) (eLst fs) := by
  refine PE.imp (pe_lst h) fun σ H Q ⟨H0, Z0, env, Z, out, h, s, p⟩ => ?_
  refine tDA_bnd h s p fun ds vs Z1 H1 hk e1 rs s1 p1 => ?_
  split at hk
  · rename_i hl
    cases hk
    exact ⟨by rw [rs.length]; exact line_of hl, fun q hq => p1.own e1.zh hq rs⟩
  · cases hk
end
/-! ### slices -/
abbrev FO := PEnv → M (Option Int)
structure PostO (K : PySem.W.Frag) (T : Tab) (Z H : Hp) (σ : St) (W : WX) (Q : Option Int → Hp → Prop) (out : Ex (Option Int)) : Prop where
  ok : ∀ r, out = .ok r → ∀ Z' H', Ext4 Z H Z' H' → Q r H'
  ex : ∀ c ds, out = .ex c ds → ∀ cls d Z' H', Ext4 Z H Z' H' → XRep K T Z' H' cls d c ds → W cls d σ H'
def tDO (K : PySem.W.Frag) (T : Tab) (W : WX) (f : FO) : TO := fun σ H Q => ∃ H0 Z0 env Z out, f env = some out ∧ SI K T H0 Z0 env σ Z H ∧ PostO K T Z H σ W Q out
abbrev PDO (X : Cx) (T : Tab) (W : WX) (e : Option Expr) (f : FO) : Prop := PO X e (tDO X.K T W f)
def oNone : FO := fun _ => some (.ok none)
def asI : Rs → M Int
  | .fro (.int i) => some (.ok i)
  | _ => none
@[simp] theorem asI_int (i : Int) : asI (.fro (.int i)) = some (.ok i) := rfl
def oSome (f : FE) : FO := fun ρ => bnd (f ρ) fun r => bnd (asI r) fun i => some (.ok (some i))
def gSl : Rs → Option Int → Option Int → M Rs := fun x lo hi => match x with
  | .fro (.tup ds) => if ¬ (HT.sIx ds.length 0 lo = 0 ∧ HT.sIx ds.length ds.length hi = ds.length) then some (.ok (.fro (.tup (cutD ds lo hi)))) else none
  | x => match asL x with
    | some ds => some (.ok (.own (cutD ds lo hi)))
    | none => none
def eSl (f : FE) (lo hi : FO) : FE := fun ρ => bnd (f ρ) fun x => bnd (lo ρ) fun l => bnd (hi ρ) fun h => gSl x l h
section
variable {X : Cx} {T : Tab} {W : WX} {e : Expr} {f : FE} {lo hi : Option Expr} {fl fh : FO} {pos p2 : Pos}
theorem pdo_none : PDO X T W none oNone := ⟨fun pins s σ H Q I ⟨H0, Z0, env, Z, out, h, s0, p⟩ => by
  cases h
  exact po_none.run pins s σ H Q I (p.ok _ rfl Z H (Ext4.refl s0.zh))⟩
theorem pdo_some (he : PD X T W e f) : PDO X T W (some e) (oSome f) := ⟨fun pins s σ H Q I ⟨H0, Z0, env, Z, out, h, s0, p⟩ => by
  refine (po_some he).run pins s σ H Q I ?_
  show tD X.K T W f σ H _
  unfold oSome at h
  rcases bnd_cases h with ⟨c, ds, e1, e2⟩ | ⟨r, e1, e2⟩
  · exact ⟨H0, Z0, env, Z, _, e1, s0, fun r q => (nomatch q), fun c' ds' q cls d Z' H' e x => by cases q; exact p.ex _ _ e2 cls d Z' H' e x⟩
  · refine ⟨H0, Z0, env, Z, _, e1, s0, fun r' q v Z' H' x rr => ?_, fun c' ds' q => (nomatch q)⟩
    cases q
    unfold asI at e2
    split at e2
    · cases e2
      simp only [RRep, Rep] at rr
      exact ⟨_, rr, p.ok _ rfl Z' H' x⟩
    · cases e2⟩
theorem tDO_bnd {K : PySem.W.Frag} {H0 Z H : Hp} {Z0 : Hx} {env : PEnv} {σ : St} {Q : VK} {out : Ex Rs} {fa : FO} {k : Option Int → M Rs} {G : Option Int → Hp → Prop} (h : bnd (fa env) k = some out) (s : SI K T H0 Z0 env σ Z H) (p : Post K T Z H σ W Q out)
    (go : ∀ o Z1 H1, k o = some out → Ext4 Z H Z1 H1 → SI K T H0 Z0 env σ Z1 H1 → Post K T Z1 H1 σ W Q out → G o H1) : tDO K T W fa σ H G := by
  rcases bnd_cases h with ⟨c, ds, e1, e2⟩ | ⟨r, e1, e2⟩
  · exact ⟨H0, Z0, env, Z, _, e1, s, fun r q => (nomatch q), fun c' ds' q cls d Z' H' e x => by cases q; exact p.ex _ _ e2 cls d Z' H' e x⟩
  · refine ⟨H0, Z0, env, Z, _, e1, s, fun r' q Z' H' e => ?_, fun c' ds' q => (nomatch q)⟩
    cases q
    exact go r Z' H' e2 e (s.step e) (p.step e)
theorem pd_slice (he : PD X T W e f) (hl : PDO X T W lo fl) (hh : PDO X T W hi fh) : PD X T W (.Subscript e (.Slice lo hi none p2) pos) (eSl f fl fh) := by
  refine PE.imp (pe_slice (SlR.or sl_list sl_tup) he hl hh) fun σ H Q ⟨H0, Z0, env, Z, out, h, s, p⟩ => ?_
  refine tD_bnd h s p fun x v Z1 H1 hk e1 rr s1 p1 => ?_
  refine tDO_bnd hk s1 p1 fun l Z2 H2 hk2 e2 s2 p2 => ?_
  refine tDO_bnd hk2 s2 p2 fun u Z3 H3 hk3 e3 s3 p3 => ?_
  have rr3 := (rr.step e2).step e3
  have zh := e3.zh
  unfold gSl at hk3
  split at hk3
  · split at hk3
    · rename_i ds hl
      cases hk3
      simp only [RRep, Rep] at rr3
      obtain ⟨q, vs, rfl, h1, h2⟩ := rr3
      exact .inr ⟨q, vs, rfl, zh.seqT h1, by rw [h2.length]; exact hl, fun p' hp' => p3.tup zh hp' h2.cut⟩
    · cases hk3
  · split at hk3
    · rename_i ds hds
      cases hk3
      obtain ⟨q, vs, rfl, h1, h2⟩ := rr3.list zh hds
      exact .inl ⟨q, vs, rfl, h1, fun p' hp' => p3.own zh hp' h2.cut⟩
    · cases hk3
end
/-! ### + and * of lists -/
def gCat : G2 := fun x y => match asO x, asO y with
  | some a, some b => if a.length + b.length ≤ LINE then some (.ok (.own (a ++ b))) else none
  | _, _ => none
def gRep : G2 := fun x y => match asO x, y with
  | some a, .fro (.int k) => if k < 2 ^ 62 ∧ -(2 ^ 62) ≤ k ∧ a.length * k.toNat ≤ LINE then some (.ok (.own (List.replicate k.toNat a).flatten)) else none
  | _, _ => none
section
variable {K : PySem.W.Frag} {T : Tab} {W : WX}
theorem o2_cat : Op2 K T W rCat gCat := fun σ B Z H x y v w out Q zh r1 r2 hg p => by
  unfold gCat at hg
  split at hg
  · rename_i a b ha hb
    split at hg
    · rename_i hl
      cases hg
      obtain ⟨q1, vs, rfl, h1, s1⟩ := r1.lst ha
      obtain ⟨q2, ws, rfl, h2, s2⟩ := r2.lst hb
      exact ⟨q1, q2, vs, ws, rfl, rfl, h1, h2, by rw [s1.length, s2.length]; exact line_of hl, fun q hq => p.own zh hq (s1.append s2)⟩
    · cases hg
  · cases hg
theorem o2_rep : Op2 K T W rRep gRep := fun σ B Z H x y v w out Q zh r1 r2 hg p => by
  unfold gRep at hg
  split at hg
  · rename_i a k ha
    split at hg
    · rename_i hl
      cases hg
      obtain ⟨q1, vs, rfl, h1, s1⟩ := r1.lst ha
      simp only [RRep, Rep] at r2
      exact ⟨q1, k, vs, rfl, r2, h1, by omega, by omega, by rw [s1.length]; exact line_of hl.2.2, fun q hq => p.own zh hq (s1.rep _)⟩
    · cases hg
  · cases hg
end
end Pd

set_option maxHeartbeats 2000000
/-! PdE: built-ins by name, isinstance, lists of one's own changed. -/
namespace Pd
open PySem PySem.Spec L2
open PyProof.Rows (envOfC)

/-! ### built-in functions -/
def OpC1 (K : PySem.W.Frag) (T : Tab) (W : WX) (r : List V → Hp → VK → Prop) (g : G1) : Prop := ∀ (σ : St) (B Z H : Hp) (x : Rs) (v : V) (out : Ex Rs) (Q : VK), Le Z H → RRep K T B Z H v x → g x = some out → Post K T Z H σ W Q out → r [v] H Q
def OpC2 (K : PySem.W.Frag) (T : Tab) (W : WX) (r : List V → Hp → VK → Prop) (g : G2) : Prop := ∀ (σ : St) (B Z H : Hp) (x y : Rs) (v w : V) (out : Ex Rs) (Q : VK), Le Z H → RRep K T B Z H v x → RRep K T B Z H w y → g x y = some out → Post K T Z H σ W Q out → r [v, w] H Q
section
variable {X : Cx} {T : Tab} {W : WX} {x : Str} {p pos : Pos} {a b : Expr} {fa fb : FE} {id : String} {r : List V → Hp → VK → Prop} {g : G1} {g2 : G2}
theorem tC1_of {K : PySem.W.Frag} (h : OpC1 K T W r g) {σ : St} {H : Hp} {Q : VK} (q : tD K T W (e1 g fa) σ H Q) : tCB r (tCons (tD K T W fa) tNil) σ H Q := by
  obtain ⟨H0, Z0, env, Z, out, hf, s, p⟩ := q
  refine tD_bnd hf s p fun x v Z1 H1 hk e1 r1 s1 p1 => ?_
  exact h σ H Z1 H1 x v out Q e1.zh r1 hk p1
theorem tC2_of {K : PySem.W.Frag} (h : OpC2 K T W r g2) {σ : St} {H : Hp} {Q : VK} (q : tD K T W (e2 g2 fa fb) σ H Q) : tCB r (tCons (tD K T W fa) (tCons (tD K T W fb) tNil)) σ H Q := by
  obtain ⟨H0, Z0, env, Z, out, hf, s, p⟩ := q
  refine tD_bnd hf s p fun x v Z1 H1 hk e1 r1 s1 p1 => ?_
  refine tD_bnd hk s1 p1 fun y w Z2 H2 hk2 e2 r2 s2 p2 => ?_
  exact h σ H Z2 H2 x y v w out Q e2.zh (r1.step e2) (r2.base e1.hh) hk2 p2
theorem pd_bi1 (hc : CallR X (.builtin id) r) (h : OpC1 X.K T W r g) (hg : Gl X x) (hm : X.mg x = none) (hv : bootBuiltins x = some (.builtin id)) (ha : PD X T W a fa) (hn : x ≠ "__name__" := by decide) (hdb : (x == ("__debug__" : Str)) = false := by decide)
    (hs : starEach (a :: []) X.env = (false, eval a X.env) :: starEach [] X.env := by rfl) (hpl : (backTo pos (starEach [] X.env)).any (·.1) = false := by rfl) : PD X T W (.Call (.Name x p) [a] [] pos) (e1 g fa) :=
  PE.imp (pe_callB hc hg hm hv (pa_cons ha pa_nil hs) hn hdb hs hpl) fun _ _ _ q => tC1_of h q
theorem pd_ty1 {T' : String} (hc : CallR X (.type T') r) (h : OpC1 X.K T W r g) (hg : Gl X x) (hm : X.mg x = none) (hv : bootBuiltins x = some (.type T')) (ha : PD X T W a fa) (hn : x ≠ "__name__" := by decide) (hdb : (x == ("__debug__" : Str)) = false := by decide)
    (hs : starEach (a :: []) X.env = (false, eval a X.env) :: starEach [] X.env := by rfl) (hpl : (backTo pos (starEach [] X.env)).any (·.1) = false := by rfl) : PD X T W (.Call (.Name x p) [a] [] pos) (e1 g fa) :=
  PE.imp (pe_callTy hc hg hm hv (pa_cons ha pa_nil hs) hn hdb hs hpl) fun _ _ _ q => tC1_of h q
theorem pd_bi2 (hc : CallR X (.builtin id) r) (h : OpC2 X.K T W r g2) (hg : Gl X x) (hm : X.mg x = none) (hv : bootBuiltins x = some (.builtin id)) (ha : PD X T W a fa) (hb : PD X T W b fb) (hn : x ≠ "__name__" := by decide) (hdb : (x == ("__debug__" : Str)) = false := by decide)
    (hs : starEach (a :: [b]) X.env = (false, eval a X.env) :: starEach [b] X.env := by rfl) (hs2 : starEach (b :: []) X.env = (false, eval b X.env) :: starEach [] X.env := by rfl) (hpl : (backTo pos (starEach [b] X.env)).any (·.1) = false := by rfl) : PD X T W (.Call (.Name x p) [a, b] [] pos) (e2 g2 fa fb) :=
  PE.imp (pe_callB hc hg hm hv (pa_cons ha (pa_cons hb pa_nil hs2) hs) hn hdb hs hpl) fun _ _ _ q => tC2_of h q
theorem pd_bf2 (hc : CallR X (.builtin id) r) (h : OpC2 X.K T W r g2) (hg : Gl X x) (hm : X.mg x = some (.builtin id)) (ha : PD X T W a fa) (hb : PD X T W b fb) (hdb : (x == ("__debug__" : Str)) = false := by decide)
    (hs : starEach (a :: [b]) X.env = (false, eval a X.env) :: starEach [b] X.env := by rfl) (hs2 : starEach (b :: []) X.env = (false, eval b X.env) :: starEach [] X.env := by rfl) (hpl : (backTo pos (starEach [b] X.env)).any (·.1) = false := by rfl) : PD X T W (.Call (.Name x p) [a, b] [] pos) (e2 g2 fa fb) :=
  PE.imp (pe_callBfun hc hg hm (pa_cons ha (pa_cons hb pa_nil hs2) hs) hdb hs hpl) fun _ _ _ q => tC2_of h q
end
def gLen : G1 := fun x => match x with
  | .fro (.tup ds) => vI ds.length
  | .fro (.str z) => if z.length ≤ LINE then vI z.length else none
  | x => match asL x with
    | some ds => vI ds.length
    | none => none
def gAbs : G1
  | .fro (.int i) => vI (if i < 0 then -i else i)
  | _ => none
def gInt : G1
  | .fro (.int i) => vI i
  | .fro (.bl k) => vI (if k then 1 else 0)
  | _ => none
def gMax : G2 := gII fun i j => vI (if j > i then j else i)
def gMin : G2 := gII fun i j => vI (if j < i then j else i)
def gGcd : G2 := gII fun i j => vI ((Nat.gcd i.natAbs j.natAbs : Nat) : Int)
/-- list(x) of a list or a tuple -/
def gList : G1 := fun x => match x with
  | .fro (.tup ds) => some (.ok (.own ds))
  | x => match asL x with
    | some ds => some (.ok (.own ds))
    | none => none
def gTuple : G1 := fun x => match x with
  | .fro (.tup ds) => some (.ok (.fro (.tup ds)))
  | x => match asL x with
    | some ds => some (.ok (.fro (.tup ds)))
    | none => none
section
variable {X : Cx} {T : Tab} {W : WX} {p pos : Pos} {a b : Expr} {fa fb : FE}
theorem oc_len : OpC1 X.K T W (fun xs H Q => ∃ x n, xs = [x] ∧ LenV X.K x H n ∧ Q (.int n) H) gLen := fun σ B Z H x v out Q zh r1 hg p => by
  unfold gLen at hg
  split at hg
  · cases hg
    simp only [RRep, Rep] at r1
    obtain ⟨q, vs, rfl, h1, h2⟩ := r1
    refine ⟨_, vs.length, rfl, .inr ⟨vs, zh.seqT h1, rfl⟩, ?_⟩
    rw [h2.length]
    exact p.fro zh (by simp only [Rep])
  · split at hg
    · rename_i hz
      cases hg
      simp only [RRep, Rep] at r1
      subst r1
      exact ⟨_, _, rfl, ⟨line_of hz, rfl⟩, p.fro zh (by simp only [Rep])⟩
    · cases hg
  · split at hg
    · rename_i ds hds
      cases hg
      obtain ⟨q, vs, rfl, h1, h2⟩ := r1.list zh hds
      refine ⟨_, vs.length, rfl, .inl ⟨vs, h1, rfl⟩, ?_⟩
      rw [h2.length]
      exact p.fro zh (by simp only [Rep])
    · cases hg
theorem oc_abs : OpC1 X.K T W (fun xs H Q => ∃ i, xs = [.int i] ∧ Q (.int (if i < 0 then -i else i)) H) gAbs := fun σ B Z H x v out Q zh r1 hg p => by
  unfold gAbs at hg
  split at hg
  · cases hg
    simp only [RRep, Rep] at r1
    subst r1
    exact ⟨_, rfl, p.fro zh (by simp only [Rep])⟩
  · cases hg
theorem oc_int : OpC1 X.K T W (fun xs H Q => (∃ i, xs = [.int i] ∧ Q (.int i) H) ∨ ∃ k, xs = [.bl k] ∧ Q (.int (if k then 1 else 0)) H) gInt := fun σ B Z H x v out Q zh r1 hg p => by
  unfold gInt at hg
  split at hg
  · cases hg
    simp only [RRep, Rep] at r1
    subst r1
    exact .inl ⟨_, rfl, p.fro zh (by simp only [Rep])⟩
  · cases hg
    simp only [RRep, Rep] at r1
    subst r1
    exact .inr ⟨_, rfl, p.fro zh (by simp only [Rep])⟩
  · cases hg
theorem oc_II {g : Int → Int → Int} : OpC2 X.K T W (fun xs H Q => ∃ i j, xs = [.int i, .int j] ∧ Q (.int (g i j)) H) (gII fun i j => vI (g i j)) := fun σ B Z H x y v w out Q zh r1 r2 hg p => by
  obtain ⟨i, j, rfl, rfl, e⟩ := gII_inv hg
  cases e
  simp only [RRep, Rep] at r1 r2
  subst r1 r2
  exact ⟨i, j, rfl, p.fro zh (by simp only [Rep])⟩
theorem oc_list : OpC1 X.K T W (fun xs H Q => ∃ p ys, xs = [.ref p] ∧ (SqL X.K H p ys ∨ SqT X.K H p ys) ∧ ∀ l, H l = none → Q (.ref l) (upd H l (.lst ys))) gList := fun σ B Z H x v out Q zh r1 hg p => by
  unfold gList at hg
  split at hg
  · cases hg
    simp only [RRep, Rep] at r1
    obtain ⟨q, vs, rfl, h1, h2⟩ := r1
    exact ⟨q, vs, rfl, .inr (zh.seqT h1), fun l hl => p.own zh hl h2⟩
  · split at hg
    · rename_i ds hds
      cases hg
      obtain ⟨q, vs, rfl, h1, h2⟩ := r1.list zh hds
      exact ⟨q, vs, rfl, .inl h1, fun l hl => p.own zh hl h2⟩
    · cases hg
theorem oc_tuple : OpC1 X.K T W (fun xs H Q => ∃ p ys, xs = [.ref p] ∧ ((SqL X.K H p ys ∧ ∀ l, H l = none → Q (.ref l) (upd H l (.tup ys))) ∨ (SqT X.K H p ys ∧ Q (.ref p) H))) gTuple := fun σ B Z H x v out Q zh r1 hg p => by
  unfold gTuple at hg
  split at hg
  · cases hg
    have r1' := r1
    simp only [RRep, Rep] at r1
    obtain ⟨q, vs, rfl, h1, h2⟩ := r1
    exact ⟨q, vs, rfl, .inr ⟨zh.seqT h1, p.fro zh r1'⟩⟩
  · split at hg
    · rename_i ds hds
      cases hg
      obtain ⟨q, vs, rfl, h1, h2⟩ := r1.list zh hds
      exact ⟨q, vs, rfl, .inl ⟨h1, fun l hl => p.tup zh hl h2⟩⟩
    · cases hg
theorem pd_len (hm : X.mg "len" = none) (ha : PD X T W a fa) (hg : Gl X "len" := by rfl) (hs : starEach (a :: []) X.env = (false, eval a X.env) :: starEach [] X.env := by rfl) (hpl : (backTo pos (starEach [] X.env)).any (·.1) = false := by rfl) : PD X T W (.Call (.Name "len" p) [a] [] pos) (e1 gLen fa) :=
  pd_bi1 call_len oc_len hg hm boot_len ha (hs := hs) (hpl := hpl)
theorem pd_abs (hm : X.mg "abs" = none) (ha : PD X T W a fa) (hg : Gl X "abs" := by rfl) (hs : starEach (a :: []) X.env = (false, eval a X.env) :: starEach [] X.env := by rfl) (hpl : (backTo pos (starEach [] X.env)).any (·.1) = false := by rfl) : PD X T W (.Call (.Name "abs" p) [a] [] pos) (e1 gAbs fa) :=
  pd_bi1 call_abs oc_abs hg hm (by decide +kernel) ha (hs := hs) (hpl := hpl)
theorem pd_intf (hm : X.mg "int" = none) (ha : PD X T W a fa) (hg : Gl X "int" := by rfl) (hs : starEach (a :: []) X.env = (false, eval a X.env) :: starEach [] X.env := by rfl) (hpl : (backTo pos (starEach [] X.env)).any (·.1) = false := by rfl) : PD X T W (.Call (.Name "int" p) [a] [] pos) (e1 gInt fa) :=
  pd_ty1 call_int1 oc_int hg hm (by decide +kernel) ha (hs := hs) (hpl := hpl)
theorem pd_listf (hm : X.mg "list" = none) (ha : PD X T W a fa) (hg : Gl X "list" := by rfl) (hs : starEach (a :: []) X.env = (false, eval a X.env) :: starEach [] X.env := by rfl) (hpl : (backTo pos (starEach [] X.env)).any (·.1) = false := by rfl) : PD X T W (.Call (.Name "list" p) [a] [] pos) (e1 gList fa) :=
  pd_ty1 call_list_of oc_list hg hm (by decide +kernel) ha (hs := hs) (hpl := hpl)
theorem pd_tuplef (hm : X.mg "tuple" = none) (ha : PD X T W a fa) (hg : Gl X "tuple" := by rfl) (hs : starEach (a :: []) X.env = (false, eval a X.env) :: starEach [] X.env := by rfl) (hpl : (backTo pos (starEach [] X.env)).any (·.1) = false := by rfl) : PD X T W (.Call (.Name "tuple" p) [a] [] pos) (e1 gTuple fa) :=
  pd_ty1 call_tuple_of oc_tuple hg hm (by decide +kernel) ha (hs := hs) (hpl := hpl)
theorem pd_max (hc : X.calm = true) (hm : X.mg "max" = none) (ha : PD X T W a fa) (hb : PD X T W b fb) (hg : Gl X "max" := by rfl) (hs : starEach (a :: [b]) X.env = (false, eval a X.env) :: starEach [b] X.env := by rfl) (hs2 : starEach (b :: []) X.env = (false, eval b X.env) :: starEach [] X.env := by rfl)
    (hpl : (backTo pos (starEach [b] X.env)).any (·.1) = false := by rfl) : PD X T W (.Call (.Name "max" p) [a, b] [] pos) (e2 gMax fa fb) := pd_bi2 (call_max2 hc) oc_II hg hm (by decide +kernel) ha hb (hs := hs) (hs2 := hs2) (hpl := hpl)
theorem pd_min (hc : X.calm = true) (hm : X.mg "min" = none) (ha : PD X T W a fa) (hb : PD X T W b fb) (hg : Gl X "min" := by rfl) (hs : starEach (a :: [b]) X.env = (false, eval a X.env) :: starEach [b] X.env := by rfl) (hs2 : starEach (b :: []) X.env = (false, eval b X.env) :: starEach [] X.env := by rfl)
    (hpl : (backTo pos (starEach [b] X.env)).any (·.1) = false := by rfl) : PD X T W (.Call (.Name "min" p) [a, b] [] pos) (e2 gMin fa fb) := pd_bi2 (call_min2 hc) oc_II hg hm (by decide +kernel) ha hb (hs := hs) (hs2 := hs2) (hpl := hpl)
theorem pd_gcd (hm : X.mg "gcd" = some (.builtin "math.gcd")) (ha : PD X T W a fa) (hb : PD X T W b fb) (hg : Gl X "gcd" := by rfl) (hs : starEach (a :: [b]) X.env = (false, eval a X.env) :: starEach [b] X.env := by rfl) (hs2 : starEach (b :: []) X.env = (false, eval b X.env) :: starEach [] X.env := by rfl)
    (hpl : (backTo pos (starEach [b] X.env)).any (·.1) = false := by rfl) : PD X T W (.Call (.Name "gcd" p) [a, b] [] pos) (e2 gGcd fa fb) := pd_bf2 cr_gcd oc_II hg hm ha hb (hs := hs) (hs2 := hs2) (hpl := hpl)
end

/-! ### isinstance -/
inductive CR where
  | ty (n : String) | own (c : Nat)
  deriving DecidableEq
def CR.val (T : Tab) : CR → Value
  | .ty n => .type n
  | .own c => .ref (T.ca c)
def CR.v (T : Tab) : CR → V
  | .ty n => .ty n
  | .own c => .ref (T.ca c)
def typD : Dt → Option CR
  | .non => some (.ty "NoneType") | .bl _ => some (.ty "bool") | .int _ => some (.ty "int") | .str _ => some (.ty "str") | .tup _ => some (.ty "tuple") | .lst _ => some (.ty "list") | .ins c _ => some (.own c) | .ty _ => none
def typR : Rs → Option CR
  | .fro d => typD d
  | _ => some (.ty "list")
def gIsi (ans : CR → Option Bool) : G1 := fun r => match typR r with
  | some t => match ans t with
    | some b => vB b
    | none => none
  | none => none
/-- what isinstance asks of a class of the table -/
structure IsiC (K : PySem.W.Frag) (T : Tab) (c : Nat) : Prop where
  cls : Cls K (T.ca c)
  ha : PySem.W.findIn K (.ref (T.ca c)) "__class__" = some (some (.builtin "object.__class__"))
  hn : PySem.W.specialIn K (.builtin "object.__class__") "__get__" = some (some (.builtin "getset_descriptor.__get__"))
  htk : PySem.W.takesIn K (.builtin "object.__class__") = some true
  hm : PySem.W.mroIn K (T.ca c) (.type "object") = some true
theorem sqL_ty {K : PySem.W.Frag} {H : Hp} {p : Addr} {vs : List V} (h : SqL K H p vs) : TyX K H (.ref p) (.type "list") := by
  rcases h with (h | ⟨o, h⟩) | ⟨o, its, n, hk, hc, _⟩
  · exact .base (.lst h)
  · exact .base (.frz h)
  · exact .kList hk hc
theorem sqT_ty {K : PySem.W.Frag} {H : Hp} {p : Addr} {vs : List V} (h : SqT K H p vs) : TyX K H (.ref p) (.type "tuple") := by
  rcases h with (h | ⟨o, h⟩) | ⟨o, its, n, hk, hc, _⟩
  · exact .base (.tup h)
  · exact .fTuple h
  · exact .kTuple hk hc
theorem typR_ok {K : PySem.W.Frag} {T : Tab} {B Z H : Hp} {r : Rs} {v : V} {t : CR} (hI : ∀ c, t = .own c → IsiC K T c) (zh : Le Z H) (h : RRep K T B Z H v r) (e : typR r = some t) : TyX K H v (t.val T) := by
  cases r with
  | own ds => cases e; obtain ⟨p, vs, rfl, _, h1, _⟩ := h; exact sqL_ty (.of h1)
  | bor ds => cases e; obtain ⟨p, vs, rfl, h1, _⟩ := h; exact sqL_ty (.of h1)
  | fro d =>
    cases d <;> simp only [typR, typD, Option.some.injEq, reduceCtorEq] at e <;> subst e <;> simp only [RRep, Rep] at h
    · subst h; exact .base .non
    · subst h; exact .base (.bl _)
    · subst h; exact .base (.int _)
    · subst h; exact .base (.str _)
    · obtain ⟨p, vs, rfl, h1, _⟩ := h; exact sqT_ty (zh.seqT h1)
    · obtain ⟨p, vs, rfl, h1, _⟩ := h; exact sqL_ty (zh.seqL h1)
    · obtain ⟨p, dx, vs, rfl, h1, _⟩ := h
      have I := hI _ rfl
      exact .base (.ins (zh _ _ h1) I.cls I.ha I.hn I.htk I.hm)
section
variable {X : Cx} {T : Tab} {W : WX} {p pos : Pos} {a b : Expr} {fa : FE}
theorem pd_isi (cr : CR) {ans : CR → Option Bool} (hA : ∀ t r, ans t = some r → PySem.W.kitOne X.K (t.val T) (cr.val T) = some r) (hI : ∀ c r, ans (.own c) = some r → IsiC X.K T c) (hm : X.mg "isinstance" = none) (ha : PD X T W a fa) (hb : PE X b (tC (cr.v T)))
    (hg : Gl X "isinstance" := by rfl) (hs : starEach (a :: [b]) X.env = (false, eval a X.env) :: starEach [b] X.env := by rfl) (hs2 : starEach (b :: []) X.env = (false, eval b X.env) :: starEach [] X.env := by rfl)
    (hpl : (backTo pos (starEach [b] X.env)).any (·.1) = false := by rfl) : PD X T W (.Call (.Name "isinstance" p) [a, b] [] pos) (e1 (gIsi ans) fa) := by
  refine PE.imp (pe_callB call_isi hg hm PyProof.Rows.boot_isinstance (pa_cons ha (pa_cons hb pa_nil hs2) hs) (by decide) (by decide) hs hpl) fun σ H Q ⟨H0, Z0, env, Z, out, hf, s, p⟩ => ?_
  refine tD_bnd hf s p fun x v Z1 H1 hk e1 r1 s1 p1 => ?_
  show rIsi X.K [v, cr.v T] H1 Q
  unfold gIsi at hk
  split at hk
  · rename_i t ht
    split at hk
    · rename_i r hr
      cases hk
      refine ⟨v, cr.v T, t.val T, cr.val T, r, rfl, ?_, typR_ok (fun c e => hI c r (by rw [← e]; exact hr)) e1.zh r1 ht, hA t r hr, p1.fro e1.zh (by simp only [Rep])⟩
      cases cr with
      | ty n => exact .ty n
      | own c => exact .own _
    · cases hk
  · cases hk
/-- isinstance(x, int) and such: the built-in kinds' answers -/
def ansB (n : String) (cs : List Nat) : CR → Option Bool
  | .ty m => kitB m n
  | .own c => if cs.contains c then some false else none
end

/-! ### lists of one's own, changed -/
theorem SI.change {K : PySem.W.Frag} {T : Tab} {H0 Z1 H1 : Hp} {Z0 : Hx} {env : PEnv} {σ : St} {i : Nat} {ds es : List Dt} {ws : List V} {q : Addr} (s : SI K T H0 Z0 env σ Z1 H1) (he : env[i]? = some (some (.own ds))) (hσ : σ[i]? = some (some (.ref q)))
    (rs : Reps K T Z1 es ws) : SI K T H0 Z0 (env.set i (some (.own es))) σ Z1 (upd H1 q (.lst ws)) := by
  obtain ⟨w, h1, q', vs, rfl, b, hq, zq, _⟩ := s.cell i _ he
  rw [hσ] at h1
  cases h1
  have oi : isOwnC env[i]? := by rw [he]; exact True.intro
  have hl2 : i < env.length := (List.getElem?_eq_some_iff.mp he).1
  refine ⟨⟨fun a o h => ?_, s.ext.zz, fun a o h => ?_, s.ext.st⟩, by simp [s.len], fun m cl hm' => ?_, fun m k u hmk a1 a2 a3 a4 => ?_, fun m c2 ds2 v2 hm' h' => ?_⟩
  · have ne : a ≠ q := fun z => by subst z; rw [b] at h; cases h
    rw [upd_ne ne]; exact s.ext.hh _ _ h
  · have ne : a ≠ q := fun z => by subst z; rw [zq] at h; cases h
    rw [upd_ne ne]; exact s.ext.zh _ _ h
  · by_cases z : i = m
    · subst z
      rw [List.getElem?_set_self hl2] at hm'
      cases hm'
      exact ⟨_, hσ, q, _, rfl, b, upd_same, zq, rs⟩
    · rw [List.getElem?_set_ne z] at hm'
      obtain ⟨u, g1, g2⟩ := s.cell m cl hm'
      refine ⟨u, g1, ?_⟩
      cases cl with
      | fro d => exact g2
      | own es =>
        obtain ⟨q2, ws, rfl, b2, hq2, zq2, rs2⟩ := g2
        have ne : q2 ≠ q := fun y => by
          subst y
          exact s.sep i m _ z oi (by rw [hm']; exact True.intro) hσ g1
        exact ⟨q2, ws, rfl, b2, by rw [upd_ne ne]; exact hq2, zq2, rs2⟩
      | mk c es =>
        obtain ⟨q2, dx2, ws, rfl, b2, hq2, zq2, rs2⟩ := g2
        have ne : q2 ≠ q := fun y => by
          subst y
          exact s.sep i m _ z oi (by rw [hm']; exact True.intro) hσ g1
        exact ⟨q2, dx2, ws, rfl, b2, by rw [upd_ne ne]; exact hq2, zq2, rs2⟩
  · have nf : ∀ r : Nat, isOwnC ((env.set i (some (.own es)))[r]?) → isOwnC env[r]? := fun r hr => by
      by_cases z : i = r
      · subst z; exact oi
      · rw [List.getElem?_set_ne z] at hr; exact hr
    exact s.sep m k u hmk (nf m a1) (nf k a2) a3 a4
  · by_cases z : i = m
    · subst z
      rw [List.getElem?_set_self hl2] at hm'; cases hm'
    · rw [List.getElem?_set_ne z] at hm'; exact s.me m _ _ _ hm' h'
/-- xs.append(e) -/
def sApp (i : Nat) (f : FE) : FS := fun ρ => match ρ[i]? with
  | some (some (.own ds)) => bndS ρ (f ρ) fun r => bndS ρ (frz r) fun d => if ds.length < LINE then some (.nx (ρ.set i (some (.own (ds ++ [d]))))) else none
  | _ => none
/-- xs[k] = e -/
def sSetIx (i : Nat) (fk f : FE) : FS := fun ρ => match ρ[i]? with
  | some (some (.own ds)) => bndS ρ (f ρ) fun r => bndS ρ (frz r) fun d => bndS ρ (fk ρ) fun k => bndS ρ (asI k) fun k => match ixN ds.length k with
    | some j => some (.nx (ρ.set i (some (.own (ds.set j d)))))
    | none => none
  | _ => none
/-- xs.pop() as a statement -/
def sPop (i : Nat) : FS := fun ρ => match ρ[i]? with
  | some (some (.own ds)) => if ds = [] then none else some (.nx (ρ.set i (some (.own ds.dropLast))))
  | _ => none
section
variable {X : Cx} {T : Tab} {W : WX} {i : Nat} {x : Str} {xp apos cpos pos pos' : Pos} {e k : Expr} {f fk : FE}
theorem var_own {K : PySem.W.Frag} {H0 Z H : Hp} {Z0 : Hx} {env : PEnv} {σ : St} {ds : List Dt} (s : SI K T H0 Z0 env σ Z H) (he : env[i]? = some (some (.own ds))) : ∃ q vs, σ[i]? = some (some (.ref q)) ∧ H q = some (.lst vs) ∧ Reps K T Z ds vs := by
  obtain ⟨w, h1, q, vs, rfl, b, hq, zq, rs⟩ := s.cell i _ he
  exact ⟨q, vs, h1, hq, rs⟩
theorem pds_app (he : PD X T W e f) (hN : X.N[i]? = some x := by rfl) (hv : Vis X.env.scope x := by first | exact Or.inl rfl | exact Or.inr (Or.inl rfl) | exact Or.inr (Or.inr rfl)) (hd : (x == ("__debug__" : Str)) = false := by decide) (hcd : (x == ("__classdict__" : Str)) = false := by decide)
    (hbase : attributeBase (.Name x xp) "append" X.env (eval (.Name x xp) X.env) = eval (.Name x xp) X.env := by rfl)
    (hfew : ((backTo cpos (starEach (e :: []) X.env)).all (fun x => !x.1) && (backToKw cpos (keywordEach [] X.env)).all (fun x => x.1.isSome)
      && decide ((e :: []).length + ([] : List Keyword).length + (if ([] : List Keyword).isEmpty then 0 else 1) < 30)) = true := by rfl)
    (hline : (apos.endLine == cpos.line) = true := by rfl) (hs : starEach (e :: []) X.env = (false, eval e X.env) :: starEach [] X.env := by rfl) (hplain : (backTo cpos (starEach [] X.env)).any (·.1) = false := by rfl)
    (hsw : swapsWith (.Call (.Attribute (.Name x xp) "append" apos) [e] [] cpos) none pos.line X.env = pure false := by rfl) :
    PDS X T W (.Expr (.Call (.Attribute (.Name x xp) "append" apos) [e] [] cpos) pos) (sApp i f) := by
  refine PS.imp (ps_expr (pe_bm PySem.F.plainAttrs_list PySem.F.slot_list_append PySem.F.type_list_append mt_append (pe_var hN hv hd hcd) (pa_cons he pa_nil hs) hbase hfew hline hs hplain) hsw) fun D σ H ⟨H0, Z0, env, Z, out, h, s, p⟩ => ?_
  unfold sApp at h
  split at h
  · rename_i ds hk
    obtain ⟨q, vs, g1, g2, g3⟩ := var_own s hk
    refine ⟨_, g1, .inl ⟨rfl, vs, .of g2⟩, ?_⟩
    refine tD_bndSF h s p fun d v Z1 H1 hkk e1 rd s1 => ?_
    split at hkk
    · rename_i hl
      cases hkk
      obtain ⟨q', vs', g1', g2', g3'⟩ := var_own s1 hk
      rw [g1] at g1'
      cases g1'
      refine ⟨q, vs', v, rfl, rfl, g2', by rw [g3'.length, ← LINE_eq]; exact hl, ?_⟩
      exact p.nx _ rfl σ Z1 _ (s1.change hk g1 (g3'.append (.cons rd .nil)))
    · cases hkk
  · cases h
theorem pds_setIx (he : PD X T W e f) (hk : PD X T W k fk) (hN : X.N[i]? = some x := by rfl) (hv : Vis X.env.scope x := by first | exact Or.inl rfl | exact Or.inr (Or.inl rfl) | exact Or.inr (Or.inr rfl)) (hd : (x == ("__debug__" : Str)) = false := by decide) (hcd : (x == ("__classdict__" : Str)) = false := by decide)
    (ha : ∀ v, assign (.Subscript (.Name x xp) k pos') X.env v = (do
      let ov ← holding [v] (eval (.Name x xp) X.env)
      let iv ← holding [v, ov] (eval k X.env)
      standAt pos'
      holding [v, ov, iv] (setItem ov iv v)
      release [v, ov, iv] []) := by intro _; rfl)
    (hs : swapsWithSole [.Subscript (.Name x xp) k pos'] e pos.line X.env = pure false := by rfl) (hw : swappedStores [.Subscript (.Name x xp) k pos'] e X.env = pure none := by rfl)
    (h1 : (assignEach [.Subscript (.Name x xp) k pos'] X.env).map (·.2) = [assign (.Subscript (.Name x xp) k pos') X.env] := by rfl) :
    PDS X T W (.Assign [.Subscript (.Name x xp) k pos'] e pos) (sSetIx i fk f) := by
  refine PS.imp (ps_asg he (pg_sub (pe_var hN hv hd hcd) hk set_list ha) hs hw h1) fun D σ H ⟨H0, Z0, env, Z, out, h, s, p⟩ => ?_
  unfold sSetIx at h
  split at h
  · rename_i ds hk
    refine tD_bndSF h s p fun d v Z1 H1 hkk e1 rd s1 => ?_
    obtain ⟨q, vs, g1, g2, g3⟩ := var_own s1 hk
    refine ⟨_, g1, ?_⟩
    refine tD_bndS hkk s1 p fun r w Z2 H2 hk2 e2 rr s2 => ?_
    rcases bndS_cases hk2 with ⟨c, es, q1, q2⟩ | ⟨kk, q1, q2⟩
    · unfold asI at q1; split at q1 <;> cases q1
    · unfold asI at q1
      split at q1
      · cases q1
        simp only [RRep, Rep] at rr
        split at q2
        · rename_i j hj
          cases q2
          obtain ⟨q', vs', g1', g2', g3'⟩ := var_own s2 hk
          rw [g1] at g1'
          cases g1'
          refine ⟨q, vs', kk, j, rfl, rr, g2', by rw [g3'.length]; exact hj, ?_⟩
          exact p.nx _ rfl σ Z2 _ (s2.change hk g1 (g3'.set j (rd.mono e2.zz)))
        · cases q2
      · cases q1
  · cases h
theorem pds_pop (hN : X.N[i]? = some x := by rfl) (hv : Vis X.env.scope x := by first | exact Or.inl rfl | exact Or.inr (Or.inl rfl) | exact Or.inr (Or.inr rfl)) (hd : (x == ("__debug__" : Str)) = false := by decide) (hcd : (x == ("__classdict__" : Str)) = false := by decide)
    (hbase : attributeBase (.Name x xp) "pop" X.env (eval (.Name x xp) X.env) = eval (.Name x xp) X.env := by rfl) (hline : (apos.endLine == cpos.line) = true := by rfl)
    (hsw : swapsWith (.Call (.Attribute (.Name x xp) "pop" apos) [] [] cpos) none pos.line X.env = pure false := by rfl) :
    PDS X T W (.Expr (.Call (.Attribute (.Name x xp) "pop" apos) [] [] cpos) pos) (sPop i) := by
  refine PS.imp (ps_expr (pe_bm0 PySem.F.plainAttrs_list PySem.F.slot_list_pop PySem.F.type_list_pop mt_pop (pe_var hN hv hd hcd) hbase hline) hsw) fun D σ H ⟨H0, Z0, env, Z, out, h, s, p⟩ => ?_
  unfold sPop at h
  split at h
  · rename_i ds hk
    obtain ⟨q, vs, g1, g2, g3⟩ := var_own s hk
    split at h
    · cases h
    · rename_i hne
      cases h
      have hl : 0 < vs.length := by rw [g3.length]; exact List.length_pos_iff.mpr hne
      refine ⟨_, g1, .inl ⟨rfl, vs, .of g2⟩, q, vs, vs[vs.length - 1]'(by omega), rfl, rfl, g2, by simp, ?_⟩
      exact p.nx _ rfl σ Z _ (s.change hk g1 g3.dropLast)
  · cases h
/-- x += e, x -= e, x *= e of ints -/
def sAug (g : G2) (i : Nat) (f : FE) : FS := fun ρ => match ρ[i]? with
  | some (some (.fro d)) => bndS ρ (f ρ) fun r => bndS ρ (g (.fro d) r) fun r => match celOf r with
    | some c => some (.nx (ρ.set i (some c)))
    | none => none
  | _ => none
theorem pds_augI {op : Operator} {gg : Int → Int → Int} (hop : PIp X op (ipI gg)) (hN : X.N.Nodup) (he : PD X T W e f) (hi : X.N[i]? = some x := by rfl) (hx : Loc X.env.scope x := by first | exact Or.inl rfl | exact Or.inr rfl) (hf : X.fn x = true ∨ X.env.scope.names.lookup x = some .local := by first | exact .inl rfl | exact .inr rfl) :
    PDS X T W (.AugAssign (.Name x xp) op e pos) (sAug (gII fun a b => vI (gg a b)) i f) := by
  refine PS.imp (ps_aug hN hi hx he hop hf) fun D σ H ⟨H0, Z0, env, Z, out, h, s, p⟩ => ?_
  unfold sAug at h
  split at h
  · rename_i d hd
    obtain ⟨v, g1, g2⟩ := s.cell i _ hd
    refine ⟨v, g1, ?_⟩
    refine tD_bndS h s p fun r w Z1 H1 hk e1 rr s1 => ?_
    rcases bndS_cases hk with ⟨c, es, q1, q2⟩ | ⟨r2, q1, q2⟩
    · obtain ⟨a, b, _, _, z⟩ := gII_inv q1; cases z
    · obtain ⟨a, b, ea, rfl, z⟩ := gII_inv q1
      cases ea
      cases z
      simp only [RRep, CRep, Rep] at rr g2
      subst rr g2
      cases q2
      exact ⟨a, b, rfl, rfl, p.nx _ rfl _ Z1 H1 (s1.setFro (by simp only [Rep]))⟩
  · cases h
end
end Pd

set_option maxHeartbeats 2000000
/-! PdF: targets, iterators, for, while, comprehensions. -/
namespace Pd
open PySem PySem.Spec L2
open PyProof.Rows (envOfC)

/-! ### targets -/
abbrev GT := Dt → PEnv → Option PEnv
/-- a target's reading follows from its plain function; only places of vs are changed -/
def TgD (K : PySem.W.Frag) (T : Tab) (g : TG) (gt : GT) (vs : List Nat) : Prop := ∀ (H0 : Hp) (Z0 : Hx) (env env' : PEnv) (σ : St) (Z H : Hp) (d : Dt) (v : V) (Q : St → Hp → Prop), gt d env = some env' → Rep K T Z d v → SI K T H0 Z0 env σ Z H →
  (∀ σ', SI K T H0 Z0 env' σ' Z H → wipe σ' vs = wipe σ vs → Q σ' H) → g v σ H Q
def gtName (i : Nat) : GT := fun d ρ => some (ρ.set i (some (.fro d)))
theorem wipe_set {σ : St} {i : Nat} {x : Option V} : ∀ {vs : List Nat}, i ∈ vs → wipe (σ.set i x) vs = wipe σ vs
  | [], h => by simp at h
  | v :: vs, h => by
    by_cases hv : i ∈ vs
    · show (wipe (σ.set i x) vs).set v none = (wipe σ vs).set v none
      rw [wipe_set hv]
    · have e : i = v := by
        rcases List.mem_cons.mp h with e | e
        · exact e
        · exact absurd e hv
      subst e
      show (wipe (σ.set i x) vs).set i none = (wipe σ vs).set i none
      have comm : ∀ ws : List Nat, i ∉ ws → wipe (σ.set i x) ws = (wipe σ ws).set i x := by
        intro ws
        induction ws with
        | nil => intro _; rfl
        | cons w ws ih =>
          intro hw
          show (wipe (σ.set i x) ws).set w none = ((wipe σ ws).set w none).set i x
          rw [ih fun z => hw (List.mem_cons_of_mem _ z), List.set_comm]
          exact fun z => hw (by simp [z])
      rw [comm vs hv, List.set_set]
theorem tg_name {K : PySem.W.Frag} {T : Tab} {i : Nat} {vs : List Nat} (h : i ∈ vs) : TgD K T (gName i) (gtName i) vs := fun H0 Z0 env env' σ Z H d v Q e r s q => by
  cases e
  exact q _ (s.setFro r) (wipe_set h)
/-- several names for a tuple -/
def gtNames : List Nat → List Dt → PEnv → Option PEnv
  | [], [], ρ => some ρ
  | i :: is, d :: ds, ρ => gtNames is ds (ρ.set i (some (.fro d)))
  | _, _, _ => none
def gtTup (is : List Nat) : GT := fun d ρ => match d with
  | .tup ds => gtNames is ds ρ
  | _ => none
def gNames : List Nat → TGs
  | [] => gNil
  | i :: is => gCons (gName i) (gNames is)
theorem names_run {K : PySem.W.Frag} {T : Tab} {vs : List Nat} : ∀ {is : List Nat} {ds : List Dt} {xs : List V} {H0 : Hp} {Z0 : Hx} {env env' : PEnv} {σ : St} {Z H : Hp} {Q : St → Hp → Prop}, (∀ i ∈ is, i ∈ vs) → gtNames is ds env = some env' → Reps K T Z ds xs → SI K T H0 Z0 env σ Z H →
    (∀ σ', SI K T H0 Z0 env' σ' Z H → wipe σ' vs = wipe σ vs → Q σ' H) → gNames is xs σ H Q
  | [], [], xs, _, _, _, _, _, _, _, _, _, e, r, s, q => by
    cases e
    exact ⟨r.nil_inv, q _ s rfl⟩
  | i :: is, d :: ds, xs, _, _, _, _, _, _, _, _, hv, e, r, s, q => by
    obtain ⟨x, r', rfl, r1, r2⟩ := r.cons_inv
    refine ⟨x, r', rfl, ?_⟩
    exact names_run (is := is) (fun j hj => hv j (List.mem_cons_of_mem _ hj)) e r2 (s.setFro r1) fun σ' s' w => q σ' s' (w.trans (wipe_set (hv i (by simp))))
  | [], _ :: _, _, _, _, _, _, _, _, _, _, _, e, _, _, _ => by cases e
  | _ :: _, [], _, _, _, _, _, _, _, _, _, _, e, _, _, _ => by cases e
theorem gtNames_len : ∀ {is : List Nat} {ds : List Dt} {ρ ρ' : PEnv}, gtNames is ds ρ = some ρ' → is.length = ds.length
  | [], [], _, _, _ => rfl
  | _ :: _, _ :: _, _, _, h => congrArg Nat.succ (gtNames_len h)
  | [], _ :: _, _, _, h => by cases h
  | _ :: _, [], _, _, h => by cases h
theorem tg_tup {K : PySem.W.Frag} {T : Tab} {is vs : List Nat} {n : Nat} (hn : n = is.length) (h : ∀ i ∈ is, i ∈ vs) : TgD K T (gTup K n (gNames is)) (gtTup is) vs := fun H0 Z0 env env' σ Z H d v Q e r s q => by
  unfold gtTup at e
  split at e
  · rename_i ds
    simp only [Rep] at r
    obtain ⟨p, xs, rfl, h1, h2⟩ := r
    exact ⟨p, xs, rfl, s.zh.seqT h1, by rw [h2.length, hn, gtNames_len e], names_run h e h2 s q⟩
  · cases e
/-- (a, b, ..) = value -/
def sSetT (is : List Nat) (f : FE) : FS := fun ρ => bndS ρ (f ρ) fun r => bndS ρ (frz r) fun d => match gtTup is d ρ with
  | some ρ' => some (.nx ρ')
  | none => none
section
variable {X : Cx} {T : Tab} {W : WX} {e : Expr} {es : List Expr} {f : FE} {pos tpos : Pos} {k : Nat}
theorem pds_setT (is : List Nat) (hc : X.calm = true) (hg : PGs X es (gNames is)) (he : PD X T W e f) (hn : (assignEach es X.env).length = is.length := by rfl) (hst : (assignEach es X.env).findIdx? (·.1) = none := by rfl)
    (hs : swapsWithSole [.Tuple es k tpos] e pos.line X.env = pure false := by rfl) (hw : swappedStores [.Tuple es k tpos] e X.env = pure none := by rfl)
    (h1 : (assignEach [.Tuple es k tpos] X.env).map (·.2) = [assign (.Tuple es k tpos) X.env] := by rfl) : PDS X T W (.Assign [.Tuple es k tpos] e pos) (sSetT is f) := by
  refine PS.imp (ps_asg he (pg_tup hc hg hn hst) hs hw h1) fun D σ H ⟨H0, Z0, env, Z, out, h, s, p⟩ => ?_
  refine tD_bndSF h s p fun d v Z1 H1 hk e1 rd s1 => ?_
  split at hk
  · rename_i ρ' hρ
    cases hk
    exact tg_tup (vs := is) rfl (fun _ h => h) H0 Z0 env ρ' σ Z1 H1 d v D.nx hρ rd s1 fun σ' s' _ => p.nx _ rfl σ' Z1 H1 s'
  · cases hk
theorem pgs_name {i : Nat} {is : List Nat} {x : Str} {xp : Pos} (hN : X.N.Nodup) (h : PGs X es (gNames is)) (hi : X.N[i]? = some x := by rfl) (hx : Loc X.env.scope x := by first | exact Or.inl rfl | exact Or.inr rfl)
    (hs : (assignEach (.Name x xp :: es) X.env).map (·.2) = assign (.Name x xp) X.env :: (assignEach es X.env).map (·.2) := by rfl) (hf : X.fn x = true ∨ X.env.scope.names.lookup x = some .local := by first | exact .inl rfl | exact .inr rfl) : PGs X (.Name x xp :: es) (gNames (i :: is)) := pgs_cons (pg_name hN hi hx hf) h hs
theorem pgs_none : PGs X [] (gNames []) := pgs_nil
end

/-! ### what is walked -/
/-- from (Z1, H1) on the iterator J yields the data ds -/
def ItD (K : PySem.W.Frag) (T : Tab) (J : It) (Z1 H1 : Hp) (ds : List Dt) : Prop :=
  (∀ (i : Nat) (d : Dt) (Z H : Hp), Le Z1 Z → Le Z H → ds[i]? = some d → J.go i H ∧ ∀ x H', J.yld i H x H' → ∃ Z', Ext4 Z H Z' H' ∧ Rep K T Z' d x) ∧
  ∀ (i : Nat) (Z H : Hp), Le Z1 Z → Le Z H → ds.length ≤ i → J.stop i H
abbrev FIt := PEnv → M (List Dt)
structure PostI (K : PySem.W.Frag) (T : Tab) (Z H : Hp) (σ : St) (W : WX) (R : It → Hp → Prop) (out : Ex (List Dt)) : Prop where
  ok : ∀ ds, out = .ok ds → ∀ J Z' H', Ext4 Z H Z' H' → ItD K T J Z' H' ds → R J H'
  ex : ∀ c ds, out = .ex c ds → ∀ cls d Z' H', Ext4 Z H Z' H' → XRep K T Z' H' cls d c ds → W cls d σ H'
def tDI (K : PySem.W.Frag) (T : Tab) (W : WX) (f : FIt) : TI := fun σ H R => ∃ H0 Z0 env Z out, f env = some out ∧ SI K T H0 Z0 env σ Z H ∧ PostI K T Z H σ W R out
abbrev PDI (X : Cx) (T : Tab) (W : WX) (tg e : Expr) (f : FIt) : Prop := PI X tg e (tDI X.K T W f)
theorem PI.imp {X : Cx} {tg e : Expr} {t t' : TI} (h : PI X tg e t) (i : ∀ σ H R, t' σ H R → t σ H R) : PI X tg e t' := ⟨fun pins s σ H R I q => h.run pins s σ H R I (i σ H R q)⟩
theorem PI.or {X : Cx} {tg e : Expr} {t t' : TI} (h : PI X tg e t) (h' : PI X tg e t') : PI X tg e (fun σ H R => t σ H R ∨ t' σ H R) := ⟨fun pins s σ H R I q => q.elim (h.run pins s σ H R I) (h'.run pins s σ H R I)⟩
theorem itD_list {K : PySem.W.Frag} {T : Tab} {Z1 H1 : Hp} {a : Addr} {vs : List V} {ds : List Dt} (h : SqL K Z1 a vs) (r : Reps K T Z1 ds vs) : ItD K T (Itl K a) Z1 H1 ds := by
  refine ⟨fun i d Z H l1 l2 hd => ?_, fun i Z H l1 l2 hi => ⟨vs, l2.seqL (l1.seqL h), by rw [r.length]; exact hi⟩⟩
  obtain ⟨w, g1, g2⟩ := r.get hd
  refine ⟨⟨vs, w, l2.seqL (l1.seqL h), g1⟩, fun x H' ⟨e, y⟩ => ?_⟩
  subst e
  have := y vs (l2.seqL (l1.seqL h))
  rw [g1] at this
  cases this
  exact ⟨Z, Ext4.refl l2, g2.mono l1⟩
theorem itD_tup {K : PySem.W.Frag} {T : Tab} {Z1 H1 : Hp} {a : Addr} {vs : List V} {ds : List Dt} (h : SqT K Z1 a vs) (r : Reps K T Z1 ds vs) : ItD K T (Itt K a) Z1 H1 ds := by
  refine ⟨fun i d Z H l1 l2 hd => ?_, fun i Z H l1 l2 hi => ⟨vs, l2.seqT (l1.seqT h), by rw [r.length]; exact hi⟩⟩
  obtain ⟨w, g1, g2⟩ := r.get hd
  refine ⟨⟨vs, w, l2.seqT (l1.seqT h), g1⟩, fun x H' ⟨e, y⟩ => ?_⟩
  subst e
  have := y vs (l2.seqT (l1.seqT h))
  rw [g1] at this
  cases this
  exact ⟨Z, Ext4.refl l2, g2.mono l1⟩
def asSeq : Dt → Option (List Dt)
  | .lst ds => some ds
  | .tup ds => some ds
  | _ => none
/-- a list or a tuple that stands -/
def iSeq (f : FE) : FIt := fun ρ => bnd (f ρ) fun r => bnd (frz r) fun d => match asSeq d with
  | some ds => some (.ok ds)
  | none => none
def intsFrom (a : Int) : Nat → List Dt
  | 0 => []
  | n + 1 => .int a :: intsFrom (a + 1) n
theorem intsFrom_length (a : Int) (n : Nat) : (intsFrom a n).length = n := by
  induction n generalizing a with
  | zero => rfl
  | succ n ih => simp [intsFrom, ih]
theorem intsFrom_get (a : Int) (n i : Nat) {d : Dt} (h : (intsFrom a n)[i]? = some d) : i < n ∧ d = .int (a + i) := by
  induction n generalizing a i with
  | zero => simp [intsFrom] at h
  | succ n ih =>
    cases i with
    | zero => simp [intsFrom] at h; exact ⟨by omega, by rw [← h]; simp⟩
    | succ i =>
      obtain ⟨h1, h2⟩ := ih (a + 1) i (by simpa [intsFrom] using h)
      refine ⟨by omega, ?_⟩
      rw [h2]
      congr 1
      omega
/-- a, a + c, .. (n of them) -/
def intsBy (a c : Int) : Nat → List Dt
  | 0 => []
  | n + 1 => .int a :: intsBy (a + c) c n
theorem intsBy_length (a c : Int) (n : Nat) : (intsBy a c n).length = n := by
  induction n generalizing a with
  | zero => rfl
  | succ n ih => simp [intsBy, ih]
theorem intsBy_get (a c : Int) (n i : Nat) {d : Dt} (h : (intsBy a c n)[i]? = some d) : i < n ∧ d = .int (a + i * c) := by
  induction n generalizing a i with
  | zero => simp [intsBy] at h
  | succ n ih =>
    cases i with
    | zero => simp [intsBy] at h; exact ⟨by omega, by rw [← h]; simp⟩
    | succ i =>
      obtain ⟨h1, h2⟩ := ih (a + c) i (by simpa [intsBy] using h)
      refine ⟨by omega, ?_⟩
      rw [h2]
      congr 1
      have : ((i + 1 : Nat) : Int) * c = (i : Int) * c + c := by
        rw [Int.natCast_add, Int.add_mul]; simp
      omega
theorem itD_rng {K : PySem.W.Frag} {T : Tab} {Z1 H1 : Hp} {lo : Int} {n : Nat} : ItD K T (Itr lo n) Z1 H1 (intsFrom lo n) := by
  refine ⟨fun i d Z H l1 l2 hd => ?_, fun i Z H l1 l2 hi => ?_⟩
  · obtain ⟨h1, rfl⟩ := intsFrom_get lo n i hd
    exact ⟨h1, fun x H' ⟨e, y⟩ => by subst e; subst y; exact ⟨Z, Ext4.refl l2, by simp only [Rep]⟩⟩
  · show n ≤ i
    rw [intsFrom_length] at hi
    exact hi
theorem itD_rngC {K : PySem.W.Frag} {T : Tab} {Z1 H1 : Hp} {lo c : Int} {n : Nat} : ItD K T (Itc lo c n) Z1 H1 (intsBy lo c n) := by
  refine ⟨fun i d Z H l1 l2 hd => ?_, fun i Z H l1 l2 hi => ?_⟩
  · obtain ⟨h1, rfl⟩ := intsBy_get lo c n i hd
    exact ⟨h1, fun x H' ⟨e, y⟩ => by subst e; subst y; exact ⟨Z, Ext4.refl l2, by simp only [Rep]⟩⟩
  · show n ≤ i
    rw [intsBy_length] at hi
    exact hi
def rOk (i : Int) : Bool := decide (-(2 ^ 62) ≤ i) && decide (i < 2 ^ 62)
theorem rOk_iff {i : Int} (h : rOk i = true) : -(2 ^ 62) ≤ i ∧ i < 2 ^ 62 := by
  unfold rOk at h
  rw [Bool.and_eq_true, decide_eq_true_eq, decide_eq_true_eq] at h
  exact h
def iRng1 (f : FE) : FIt := fun ρ => bnd (f ρ) fun r => bnd (asI r) fun n => if rOk n then some (.ok (intsFrom 0 n.toNat)) else none
def iRng2 (f g : FE) : FIt := fun ρ => bnd (f ρ) fun r => bnd (g ρ) fun q => bnd (asI r) fun a => bnd (asI q) fun b => if rOk a && rOk b then some (.ok (intsFrom a (b - a).toNat)) else none
/-- range(a, b, -1) -/
def iRngD (f g : FE) : FIt := fun ρ => bnd (f ρ) fun r => bnd (g ρ) fun q => bnd (asI r) fun a => bnd (asI q) fun b => if rOk a && rOk b then some (.ok (intsBy a (-1) (a - b).toNat)) else none
section
variable {K : PySem.W.Frag} {T : Tab} {W : WX} {H0 Z H : Hp} {Z0 : Hx} {env : PEnv} {σ : St} {R : It → Hp → Prop} {out : Ex (List Dt)}
theorem PostI.step {Z1 H1 : Hp} (p : PostI K T Z H σ W R out) (e : Ext4 Z H Z1 H1) : PostI K T Z1 H1 σ W R out :=
  ⟨fun ds h J Z' H' e' => p.ok ds h J Z' H' (e.trans e'), fun c ds h cls d Z' H' e' x => p.ex c ds h cls d Z' H' (e.trans e') x⟩
theorem tD_bndI {fa : FE} {k : Rs → M (List Dt)} {G : VK} (h : bnd (fa env) k = some out) (s : SI K T H0 Z0 env σ Z H) (p : PostI K T Z H σ W R out)
    (go : ∀ r v Z1 H1, k r = some out → Ext4 Z H Z1 H1 → RRep K T H Z1 H1 v r → SI K T H0 Z0 env σ Z1 H1 → PostI K T Z1 H1 σ W R out → G v H1) : tD K T W fa σ H G := by
  rcases bnd_cases h with ⟨c, ds, e1, e2⟩ | ⟨r, e1, e2⟩
  · exact ⟨H0, Z0, env, Z, _, e1, s, fun r q => (nomatch q), fun c' ds' q cls d Z' H' e x => by cases q; exact p.ex _ _ e2 cls d Z' H' e x⟩
  · refine ⟨H0, Z0, env, Z, _, e1, s, fun r' q v Z' H' e rr => ?_, fun c' ds' q => (nomatch q)⟩
    cases q
    exact go r v Z' H' e2 e rr (s.step e) (p.step e)
theorem asI_inv {r : Rs} {α : Type} {k : Int → M α} {o : Ex α} (h : bnd (asI r) k = some o) : ∃ i, r = .fro (.int i) ∧ k i = some o := by
  rcases bnd_cases h with ⟨c, ds, e1, _⟩ | ⟨i, e1, e2⟩
  · unfold asI at e1; split at e1 <;> cases e1
  · unfold asI at e1
    split at e1
    · cases e1; exact ⟨_, rfl, e2⟩
    · cases e1
variable {X : Cx} {tg e a b : Expr} {f fa fb : FE} {p pos : Pos}
theorem pdi_seq (he : PD X T W e f) : PDI X T W tg e (iSeq f) := by
  refine PI.imp (PI.or (pi_list he) (pi_tup he)) fun σ H R ⟨H0, Z0, env, Z, out, h, s, p⟩ => ?_
  unfold iSeq at h
  rcases bnd_cases h with ⟨c, ds, q1, q2⟩ | ⟨r, q1, q2⟩
  · exact .inl ⟨H0, Z0, env, Z, _, q1, s, fun r q => (nomatch q), fun c' ds' q cls d Z' H' e x => by cases q; exact p.ex _ _ q2 cls d Z' H' e x⟩
  · rcases bnd_cases q2 with ⟨c, ds, q3, q4⟩ | ⟨d, q3, q4⟩
    · cases r <;> cases q3
    · cases d with
      | lst ds =>
        cases q4
        refine .inl ⟨H0, Z0, env, Z, _, q1, s, fun r' q v Z' H' x rr => ?_, fun c' ds' q => (nomatch q)⟩
        cases q
        obtain ⟨Z2, x2, _, rd⟩ := rr.freeze q3 x
        simp only [Rep] at rd
        obtain ⟨q, vs, rfl, g1, g2⟩ := rd
        exact ⟨q, rfl, ⟨vs, x2.zh.seqL g1⟩, p.ok _ rfl _ Z2 H' x2 (itD_list g1 g2)⟩
      | tup ds =>
        cases q4
        refine .inr ⟨H0, Z0, env, Z, _, q1, s, fun r' q v Z' H' x rr => ?_, fun c' ds' q => (nomatch q)⟩
        cases q
        obtain ⟨Z2, x2, _, rd⟩ := rr.freeze q3 x
        simp only [Rep] at rd
        obtain ⟨q, vs, rfl, g1, g2⟩ := rd
        exact ⟨q, rfl, ⟨vs, x2.zh.seqT g1⟩, p.ok _ rfl _ Z2 H' x2 (itD_tup g1 g2)⟩
      | _ => cases q4
theorem pdi_rng1 (hm : X.mg "range" = none) (ha : PD X T W a fa) (hg : Gl X "range" := by rfl) (hs : starEach [a] X.env = [(false, eval a X.env)] := by rfl) : PDI X T W tg (.Call (.Name "range" p) [a] [] pos) (iRng1 fa) := by
  refine PI.imp (pi_range1 hg hm (pa_cons ha pa_nil hs) hs) fun σ H R ⟨H0, Z0, env, Z, out, h, s, p⟩ => ?_
  refine tD_bndI h s p fun r v Z1 H1 hk e1 rr s1 p1 => ?_
  obtain ⟨n, en, hk'⟩ := asI_inv hk
  subst en
  split at hk'
  · rename_i ho
    cases hk'
    simp only [RRep, Rep] at rr
    subst rr
    exact ⟨n, rfl, (rOk_iff ho).1, (rOk_iff ho).2, p1.ok _ rfl _ Z1 H1 (Ext4.refl e1.zh) itD_rng⟩
  · cases hk'
theorem pdi_rng2 (hm : X.mg "range" = none) (ha : PD X T W a fa) (hb : PD X T W b fb) (hg : Gl X "range" := by rfl) (hs : starEach [a, b] X.env = [(false, eval a X.env), (false, eval b X.env)] := by rfl) (hs2 : starEach [b] X.env = [(false, eval b X.env)] := by rfl) (hs3 : starEach [a, b] X.env = (false, eval a X.env) :: starEach [b] X.env := by rfl) :
    PDI X T W tg (.Call (.Name "range" p) [a, b] [] pos) (iRng2 fa fb) := by
  refine PI.imp (pi_range2 hg hm (pa_cons ha (pa_cons hb pa_nil hs2) hs3) hs hs2) fun σ H R ⟨H0, Z0, env, Z, out, h, s, p⟩ => ?_
  refine tD_bndI h s p fun r v Z1 H1 hk e1 rr s1 p1 => ?_
  refine tD_bndI hk s1 p1 fun r2 v2 Z2 H2 hk2 e2 rr2 s2 p2 => ?_
  obtain ⟨a, ea, hk3⟩ := asI_inv hk2
  obtain ⟨b, eb, hk4⟩ := asI_inv hk3
  subst ea eb
  split at hk4
  · rename_i ho
    rw [Bool.and_eq_true] at ho
    cases hk4
    simp only [RRep, Rep] at rr rr2
    subst rr rr2
    exact ⟨a, b, rfl, ⟨(rOk_iff ho.1).1, (rOk_iff ho.1).2, (rOk_iff ho.2).1, (rOk_iff ho.2).2⟩, p2.ok _ rfl _ Z2 H2 (Ext4.refl e2.zh) itD_rng⟩
  · cases hk4
theorem pdi_rngD {jj : Nat} {p1 p2 : Pos} (hm : X.mg "range" = none) (ha : PD X T W a fa) (hb : PD X T W b fb) (hg : Gl X "range" := by rfl)
    (hs : starEach [a, b, .UnaryOp .USub (.Constant (.int 1) jj p1) p2] X.env = (false, eval a X.env) :: starEach [b, .UnaryOp .USub (.Constant (.int 1) jj p1) p2] X.env := by rfl)
    (hs2 : starEach [b, .UnaryOp .USub (.Constant (.int 1) jj p1) p2] X.env = (false, eval b X.env) :: starEach [.UnaryOp .USub (.Constant (.int 1) jj p1) p2] X.env := by rfl)
    (hpl : (backTo pos (starEach [b, .UnaryOp .USub (.Constant (.int 1) jj p1) p2] X.env)).any (·.1) = false := by rfl) :
    PDI X T W tg (.Call (.Name "range" p) [a, b, .UnaryOp .USub (.Constant (.int 1) jj p1) p2] [] pos) (iRngD fa fb) := by
  refine PI.imp (pi_range3 hg hm (pa_cons ha (pa_cons hb (pa_cons (pe_un un_neg (pe_int)) pa_nil (by rfl)) hs2) hs) hs hpl) fun σ H R ⟨H0, Z0, env, Z, out, h, s, p⟩ => ?_
  refine tD_bndI h s p fun r v Z1 H1 hk e1 rr s1 p1 => ?_
  refine tD_bndI hk s1 p1 fun r2 v2 Z2 H2 hk2 e2 rr2 s2 p2 => ?_
  obtain ⟨a, ea, hk3⟩ := asI_inv hk2
  obtain ⟨b, eb, hk4⟩ := asI_inv hk3
  subst ea eb
  split at hk4
  · rename_i ho
    rw [Bool.and_eq_true] at ho
    cases hk4
    simp only [RRep, Rep] at rr rr2
    subst rr rr2
    have o1 := rOk_iff ho.1
    have o2 := rOk_iff ho.2
    exact ⟨1, rfl, a, b, -1, _, rfl, RgC.neg (by omega) (by omega) (by omega) (by omega), p2.ok _ rfl _ Z2 H2 (Ext4.refl e2.zh) itD_rngC⟩
  · cases hk4
end

/-! ### for -/
def forD (gt : GT) (body : FS) : List Dt → PEnv → Option Out
  | [], ρ => some (.nx ρ)
  | d :: ds, ρ => match gt d ρ with
    | none => none
    | some ρ1 => match body ρ1 with
      | some (.nx ρ2) => forD gt body ds ρ2
      | some (.ct ρ2) => forD gt body ds ρ2
      | some (.bk ρ2) => some (.nx ρ2)
      | o => o
def sFor (g : FIt) (gt : GT) (body : FS) : FS := fun ρ => bndS ρ (g ρ) fun ds => forD gt body ds ρ
theorem SI.up {K : PySem.W.Frag} {T : Tab} {H0 Z1 H1 : Hp} {Z0 : Hx} {env : PEnv} {σ : St} (s : SI K T H0 Z0 env σ Z1 H1) : SI K T H0 (Z1, Z0.2) env σ Z1 H1 :=
  ⟨⟨s.ext.hh, Le.refl _, s.ext.zh, fun _ _ => rfl⟩, s.len, s.cell, s.sep, s.me⟩
theorem SI.down {K : PySem.W.Frag} {T : Tab} {H0 Z1 H1 Z H : Hp} {Z0 : Hx} {env : PEnv} {σ : St} (b : Ext4 Z0.1 H0 Z1 H1) (s : SI K T H0 (Z1, Z0.2) env σ Z H) : SI K T H0 Z0 env σ Z H :=
  ⟨⟨s.ext.hh, b.zz.trans s.ext.zz, s.ext.zh, fun a h => (s.ext.st a h).trans (b.st a h)⟩, s.len, s.cell, s.sep, s.me⟩
theorem Ext4.down {H0 Z0 Z1 H1 Z H : Hp} (b : Ext4 Z0 H0 Z1 H1) (s : Ext4 Z1 H0 Z H) : Ext4 Z0 H0 Z H := ⟨s.hh, b.zz.trans s.zz, s.zh, fun a h => (s.st a h).trans (b.st a h)⟩
section
variable {X : Cx} {T : Tab} {W : WX} {tg iter : Expr} {g : FIt} {gt : GT} {tgr : TG} {body : List Stmt} {F : FS} {pos : Pos} {vs : List Nat}
theorem pds_for (hp : PassesOwn (model X.prog X.w) X.A X.env X.xe) (hc : X.calm = true) (hi : PDI X T W tg iter g) (hg : PG X tg tgr) (ht : TgD X.K T tgr gt vs) (hb : PDSs X T W body F) (hs : ∀ x, foldedSetIterable iter X.env x = pure x := by intro _; rfl) :
    PDS X T W (.For tg iter body [] pos) (sFor g gt F) := by
  refine PS.imp (ps_for hp hc hi hg hb hs) fun D σ H ⟨H0, Z0, env, Z, out, h, s, p⟩ => ?_
  unfold sFor at h
  show tDI X.K T W g σ H _
  rcases bndS_cases h with ⟨c, ds, e1, e2⟩ | ⟨ds, e1, e2⟩
  · exact ⟨H0, Z0, env, Z, _, e1, s, fun r q => (nomatch q), fun c' ds' q cls d Z' H' e x => by cases q; exact p.xc _ _ _ e2 cls d σ Z' H' (s.step e) x⟩
  · refine ⟨H0, Z0, env, Z, _, e1, s, fun ds' q J Z1 H1 x1 it => ?_, fun c' ds' q => (nomatch q)⟩
    cases q
    have b1 : Ext4 Z0.1 H0 Z1 H1 := s.ext.trans x1
    refine ⟨fun i m σ' H' => ∃ env' Z', i ≤ ds.length ∧ m = ds.length - i ∧ SI X.K T H0 (Z1, Z0.2) env' σ' Z' H' ∧ forD gt F (ds.drop i) env' = some out, ⟨_, env, Z1, Nat.zero_le _, rfl, (s.step x1).up, e2⟩, ?_⟩
    rintro i m σ' H' ⟨env', Z', hi', rfl, s', hf⟩
    have l' : Le Z1 Z' := s'.ext.zz
    by_cases hlt : i < ds.length
    · obtain ⟨go, yl⟩ := it.1 i ds[i] Z' H' l' s'.zh (by simp [hlt])
      rw [List.drop_eq_getElem_cons hlt] at hf
      unfold forD at hf
      split at hf
      · cases hf
      · rename_i ρ1 hρ1
        refine .inr ⟨go, fun σ2 H2 => ∃ env2 Z2, SI X.K T H0 (Z1, Z0.2) env2 σ2 Z2 H2 ∧ forD gt F (ds.drop (i + 1)) env2 = some out, fun σ2 H2 ⟨env2, Z2, a1, a3⟩ => ⟨_, by omega, env2, Z2, hlt, rfl, a1, a3⟩, fun x H2 y => ?_⟩
        obtain ⟨Z2, x2, rd⟩ := yl x H2 y
        refine ht H0 (Z1, Z0.2) env' ρ1 σ' Z2 H2 _ x _ hρ1 rd (s'.step x2) fun σ3 s3 _ => ?_
        -- the body
        cases hF : F ρ1 with
        | none => rw [hF] at hf; cases hf
        | some o =>
          rw [hF] at hf
          refine ⟨H0, (Z1, Z0.2), ρ1, Z2, o, hF, s3, fun env4 e σ4 Z4 H4 s4 => ?_, fun r e v Z4 H4 x4 r4 => ?_, fun env4 e σ4 Z4 H4 s4 => ?_, fun env4 e σ4 Z4 H4 s4 => ?_, fun c es env4 e cls d σ4 Z4 H4 s4 xr => ?_⟩
          · subst e; exact ⟨env4, Z4, s4, hf⟩
          · subst e; cases hf; exact p.rt _ rfl v Z4 H4 (b1.down x4) r4
          · subst e; cases hf; exact p.nx _ rfl σ4 Z4 H4 (s4.down b1)
          · subst e; exact ⟨env4, Z4, s4, hf⟩
          · subst e; cases hf; exact p.xc _ _ _ rfl cls d σ4 Z4 H4 (s4.down b1) xr
    · have e : i = ds.length := by omega
      subst e
      rw [List.drop_length] at hf
      cases hf
      exact .inl ⟨it.2 _ Z' H' l' s'.zh (Nat.le_refl _), p.nx _ rfl σ' Z' H' (s'.down b1)⟩
end

/-! ### while -/
def whileD (t : FT) (body : FS) : Nat → PEnv → Option Out
  | 0, _ => none
  | m + 1, ρ => bndS ρ (t ρ) fun b => if b then match body ρ with
      | some (.nx ρ2) => whileD t body m ρ2
      | some (.ct ρ2) => whileD t body m ρ2
      | some (.bk ρ2) => some (.nx ρ2)
      | o => o
    else some (.nx ρ)
open Classical in
noncomputable def sWhile (t : FT) (body : FS) : FS := fun ρ => if h : ∃ m o, whileD t body m ρ = some o then some (Classical.choose (Classical.choose_spec h)) else none
theorem whileD_more {t : FT} {body : FS} : ∀ {m : Nat} {ρ : PEnv} {o : Out}, whileD t body m ρ = some o → ∀ k, whileD t body (m + k) ρ = some o
  | 0, _, _, h, _ => by cases h
  | m + 1, ρ, o, h, k => by
    have e : m + 1 + k = (m + k) + 1 := by omega
    rw [e]
    unfold whileD at h ⊢
    rcases bndS_cases h with ⟨c, ds, e1, e2⟩ | ⟨b, e1, e2⟩
    · rw [e1]; exact congrArg some e2.symm
    · rw [e1]
      show (if b then _ else _) = _
      cases b with
      | false => exact e2
      | true =>
        simp only [if_true] at e2 ⊢
        cases hb : body ρ with
        | none => rw [hb] at e2; cases e2
        | some q =>
          rw [hb] at e2
          cases q with
          | nx ρ2 => exact whileD_more (m := m) e2 k
          | ct ρ2 => exact whileD_more (m := m) e2 k
          | bk ρ2 => exact e2
          | rt r => exact e2
          | xc c ds e => exact e2
theorem sWhile_of {t : FT} {body : FS} {m : Nat} {ρ : PEnv} {o : Out} (h : whileD t body m ρ = some o) : sWhile t body ρ = some o := by
  have hex : ∃ m o, whileD t body m ρ = some o := ⟨m, o, h⟩
  unfold sWhile
  rw [dif_pos hex]
  have sp := Classical.choose_spec (Classical.choose_spec hex)
  have a := whileD_more sp m
  have b := whileD_more h (Classical.choose hex)
  rw [Nat.add_comm] at b
  rw [a] at b
  exact b
theorem sWhile_inv {t : FT} {body : FS} {ρ : PEnv} {o : Out} (h : sWhile t body ρ = some o) : ∃ m, whileD t body m ρ = some o := by
  unfold sWhile at h
  split at h
  · rename_i hex
    have sp := Classical.choose_spec (Classical.choose_spec hex)
    exact ⟨_, by rw [sp]; exact h⟩
  · cases h
section
variable {X : Cx} {T : Tab} {W : WX} {c : Expr} {t : FT} {body : List Stmt} {F : FS} {pos : Pos}
theorem pds_while (hp : PassesOwn (model X.prog X.w) X.A X.env X.xe) (hc : PDT X T W c t) (hb : PDSs X T W body F) : PDS X T W (.While c body [] pos) (sWhile t F) := by
  refine PS.imp (ps_while hp hc hb) fun D σ H ⟨H0, Z0, env, Z, out, h, s, p⟩ => ?_
  obtain ⟨m0, h⟩ := sWhile_inv h
  refine ⟨fun m σ' H' => ∃ env' Z', SI X.K T H0 Z0 env' σ' Z' H' ∧ whileD t F m env' = some out, ⟨m0, env, Z, s, h⟩, ?_⟩
  rintro m σ' H' ⟨env', Z', s', hf⟩
  cases m with
  | zero => cases hf
  | succ m =>
    unfold whileD at hf
    refine tDT_bndS hf s' p fun b Z1 H1 hk e1 s1 => ?_
    cases b with
    | false => cases hk; exact iteF (p.nx _ rfl σ' Z1 H1 s1)
    | true =>
      refine iteT ⟨fun σ2 H2 => ∃ env2 Z2, SI X.K T H0 Z0 env2 σ2 Z2 H2 ∧ whileD t F m env2 = some out, fun σ2 H2 ⟨env2, Z2, a1, a2⟩ => ⟨m, Nat.lt_succ_self _, env2, Z2, a1, a2⟩, ?_⟩
      simp only [if_true] at hk
      cases hF : F env' with
      | none => rw [hF] at hk; cases hk
      | some o =>
        rw [hF] at hk
        refine ⟨H0, Z0, env', Z1, o, hF, s1, fun env4 e σ4 Z4 H4 s4 => ?_, fun r e v Z4 H4 x4 r4 => ?_, fun env4 e σ4 Z4 H4 s4 => ?_, fun env4 e σ4 Z4 H4 s4 => ?_, fun c es env4 e cls d σ4 Z4 H4 s4 xr => ?_⟩
        · subst e; exact ⟨env4, Z4, s4, hk⟩
        · subst e; cases hk; exact p.rt _ rfl v Z4 H4 x4 r4
        · subst e; cases hk; exact p.nx _ rfl σ4 Z4 H4 s4
        · subst e; exact ⟨env4, Z4, s4, hk⟩
        · subst e; cases hk; exact p.xc _ _ _ rfl cls d σ4 Z4 H4 s4 xr
end

/-! ### comprehensions -/
def wipeE (ρ : PEnv) : List Nat → PEnv
  | [] => ρ
  | v :: vs => (wipeE ρ vs).set v none
theorem SI.setNone {K : PySem.W.Frag} {T : Tab} {H0 Z H : Hp} {Z0 : Hx} {env : PEnv} {σ : St} (s : SI K T H0 Z0 env σ Z H) (i : Nat) : SI K T H0 Z0 (env.set i none) (σ.set i none) Z H := by
  have at_ : ∀ (j : Nat) (c : Cel), (env.set i none)[j]? = some (some c) → i ≠ j ∧ env[j]? = some (some c) := fun j c h => by
    by_cases e : i = j
    · subst e
      by_cases hl : i < env.length
      · rw [List.getElem?_set_self hl] at h; cases h
      · rw [List.getElem?_eq_none (by simpa using hl)] at h; cases h
    · rw [List.getElem?_set_ne e] at h; exact ⟨e, h⟩
  have own_ : ∀ j : Nat, isOwnC ((env.set i none)[j]?) → i ≠ j ∧ isOwnC env[j]? := fun j h => by
    by_cases e : i = j
    · subst e
      by_cases hl : i < env.length
      · rw [List.getElem?_set_self hl] at h; exact h.elim
      · rw [List.getElem?_eq_none (by simpa using hl)] at h; exact h.elim
    · rw [List.getElem?_set_ne e] at h; exact ⟨e, h⟩
  refine ⟨s.ext, by simp [s.len], fun j c h => ?_, fun j k v hjk h1 h2 h3 h4 => ?_, fun j c ds v h h' => ?_⟩
  · obtain ⟨e, h⟩ := at_ j c h
    obtain ⟨v, g1, g2⟩ := s.cell j c h
    exact ⟨v, by rw [List.getElem?_set_ne e]; exact g1, g2⟩
  · obtain ⟨e1, h1⟩ := own_ j h1
    obtain ⟨e2, h2⟩ := own_ k h2
    rw [List.getElem?_set_ne e1] at h3
    rw [List.getElem?_set_ne e2] at h4
    exact s.sep j k v hjk h1 h2 h3 h4
  · obtain ⟨e, h⟩ := at_ j _ h
    rw [List.getElem?_set_ne e] at h'
    exact s.me j _ _ _ h h'
theorem SI.wipe {K : PySem.W.Frag} {T : Tab} {H0 Z H : Hp} {Z0 : Hx} {env : PEnv} {σ : St} (s : SI K T H0 Z0 env σ Z H) : ∀ vs : List Nat, SI K T H0 Z0 (wipeE env vs) (L2.wipe σ vs) Z H
  | [] => s
  | v :: vs => (s.wipe vs).setNone v
theorem wipe_idem {σ : St} : ∀ vs : List Nat, L2.wipe (L2.wipe σ vs) vs = L2.wipe σ vs := fun vs => by
  have set_none : ∀ (ws : List Nat) (i : Nat) (τ : St), i ∈ ws → (L2.wipe τ ws).set i none = L2.wipe τ ws := by
    intro ws
    induction ws with
    | nil => intro i τ h; simp at h
    | cons w ws ih =>
      intro i τ h
      show ((L2.wipe τ ws).set w none).set i none = (L2.wipe τ ws).set w none
      by_cases e : w = i
      · subst e; rw [List.set_set]
      · rw [List.set_comm _ _ e, ih i τ (by rcases List.mem_cons.mp h with z | z; exact absurd z.symm e; exact z)]
  have gen : ∀ (ws us : List Nat), (∀ w ∈ ws, w ∈ us) → L2.wipe (L2.wipe σ us) ws = L2.wipe σ us := by
    intro ws
    induction ws with
    | nil => intro us _; rfl
    | cons w ws ih =>
      intro us h
      show (L2.wipe (L2.wipe σ us) ws).set w none = _
      rw [ih us fun z hz => h z (List.mem_cons_of_mem _ hz), set_none us w σ (h w (by simp))]
  exact gen vs vs fun _ h => h
/-- the data of a comprehension's list -/
def lcD (gt : GT) (ct : FT) (elt : FE) (ρ : PEnv) : List Dt → Option (List Dt)
  | [] => some []
  | d :: ds => match gt d ρ with
    | none => none
    | some ρ1 => match ct ρ1 with
      | some (.ok true) => match bnd (elt ρ1) frz with
        | some (.ok e) => (lcD gt ct elt ρ ds).map (e :: ·)
        | _ => none
      | some (.ok false) => lcD gt ct elt ρ ds
      | _ => none
def eLc (vs : List Nat) (g : FIt) (gt : GT) (ct : FT) (elt : FE) : FE := fun ρ => bnd (g ρ) fun ds => match lcD gt ct elt (wipeE ρ vs) ds with
  | some es => if ds.length ≤ LINE then some (.ok (.own es)) else none
  | none => none
abbrev PDTs (X : Cx) (T : Tab) (W : WX) (ifs : List Expr) (f : FT) : Prop := PTs X ifs (tDT X.K T W f)
def tTrue : FT := fun _ => some (.ok true)
abbrev W0 : WX := fun _ _ _ _ => False
theorem takes_W0 {X : Cx} : Takes X W0 := fun u s' ⟨_, _, _, _, _, _, _, _, _, _, _, _, _, _, _, _, w⟩ => w.elim
theorem pdts_nil {X : Cx} {T : Tab} {W : WX} : PDTs X T W [] tTrue := ⟨fun pins s σ H Q I ⟨H0, Z0, env, Z, out, h, s0, p⟩ => by
  cases h
  exact pts_nil.run pins s σ H Q I (p.ok _ rfl Z H (Ext4.refl s0.zh))⟩
theorem pdts_one {X : Cx} {T : Tab} {W : WX} {c : Expr} {f : FT} (h : PDT X T W c f) : PDTs X T W [c] f := pts_one h
theorem lc_of {K : PySem.W.Frag} {T : Tab} {W : WX} {vs : List Nat} {g : FIt} {gt : GT} {ct : FT} {elt : FE} {tgr : TG} (ht : TgD K T tgr gt vs) {σ : St} {H : Hp} {Q : VK} (q : tD K T W (eLc vs g gt ct elt) σ H Q) :
    tLc (tDI K T W g) tgr (tDT K T W0 ct) (tD K T W0 elt) vs σ H Q := by
  obtain ⟨H0, Z0, env, Z, out, h, s, p⟩ := q
  unfold eLc at h
  show tDI K T W g σ H _
  rcases bnd_cases h with ⟨c, ds, e1, e2⟩ | ⟨ds, e1, e2⟩
  · exact ⟨H0, Z0, env, Z, _, e1, s, fun r q => (nomatch q), fun c' ds' q cls d Z' H' e x => by cases q; exact p.ex _ _ e2 cls d Z' H' e x⟩
  · refine ⟨H0, Z0, env, Z, _, e1, s, fun ds' q J Z1 H1 x1 it => ?_, fun c' ds' q => (nomatch q)⟩
    cases q
    split at e2
    · rename_i es hes
      split at e2
      · rename_i hline
        cases e2
        intro Da hD
        have s1 := (s.step x1).wipe vs
        have zD : Z1 Da = none := x1.zh.free hD
        refine ⟨fun i m H' => ∃ Z' acc done, i ≤ ds.length ∧ m = ds.length - i ∧ Ext4 Z1 H1 Z' H' ∧ H' Da = some (.lst acc) ∧ Z' Da = none ∧ Reps K T Z' done acc ∧ done.length ≤ i ∧ (lcD gt ct elt (wipeE env vs) (ds.drop i)).map (done ++ ·) = some es,
          ⟨_, Z1, [], [], Nat.zero_le _, rfl, Ext4.new x1.zh hD, upd_same, zD, .nil, Nat.le_refl _, by rw [List.drop_zero, hes]; rfl⟩, ?_⟩
        rintro i m H' ⟨Z', acc, done, hi', rfl, x', hD', zD', rs, hdl, hf⟩
        have s' := s1.step x'
        by_cases hlt : i < ds.length
        · obtain ⟨go, yl⟩ := it.1 i ds[i] Z' H' x'.zz x'.zh (by simp [hlt])
          rw [List.drop_eq_getElem_cons hlt] at hf
          refine .inr ⟨go, fun H2 => ∃ Z2 acc done, Ext4 Z1 H1 Z2 H2 ∧ H2 Da = some (.lst acc) ∧ Z2 Da = none ∧ Reps K T Z2 done acc ∧ done.length ≤ i + 1 ∧ (lcD gt ct elt (wipeE env vs) (ds.drop (i + 1))).map (done ++ ·) = some es,
            fun H2 ⟨Z2, acc, done, a1, a2, a3, a4, a5, a6⟩ => ⟨_, by omega, Z2, acc, done, hlt, rfl, a1, a2, a3, a4, a5, a6⟩, fun x H2 y => ?_⟩
          obtain ⟨Z2, x2, rd⟩ := yl x H2 y
          unfold lcD at hf
          split at hf
          · cases hf
          · rename_i ρ1 hρ1
            refine ht H0 Z0 _ ρ1 _ Z2 H2 _ x _ hρ1 rd (s'.step x2) fun σ3 s3 hw => ?_
            refine ⟨by rw [hw, wipe_idem], ?_⟩
            have x2' := x'.trans x2
            have hD2 : H2 Da = some (.lst acc) := x2.hh _ _ hD'
            have zD2 : Z2 Da = none := by rw [x2.st Da (by rw [hD']; simp)]; exact zD'
            split at hf
            · rename_i hct
              refine ⟨H0, Z0, ρ1, Z2, _, hct, s3, fun b q Z3 H3 x3 => ?_, fun c es q => (nomatch q)⟩
              cases q
              refine iteT ?_
              split at hf
              · rename_i e he
                rcases bnd_cases he with ⟨c, es', w1, w2⟩ | ⟨r, w1, w2⟩
                · cases w2
                · refine ⟨H0, Z0, ρ1, Z3, _, w1, s3.step x3, fun r' q v Z4 H4 x4 rr => ?_, fun c es q => (nomatch q)⟩
                  cases q
                  obtain ⟨Z5, x5, _, rd5⟩ := rr.freeze w2 x4
                  have hD3 : H3 Da = some (.lst acc) := x3.hh _ _ hD2
                  have zD3 : Z3 Da = none := by rw [x3.st Da (by rw [hD2]; simp)]; exact zD2
                  have hD5 : H4 Da = some (.lst acc) := x5.hh _ _ hD3
                  have zD5 : Z5 Da = none := by rw [x5.st Da (by rw [hD3]; simp)]; exact zD3
                  have x25 := (x2'.trans x3).trans x5
                  have l25 : Le Z' Z5 := x2.zz.trans (x3.zz.trans x5.zz)
                  refine ⟨acc, hD5, ?_, Z5, acc ++ [v], done ++ [e], ⟨fun a o h => ?_, x25.zz, fun a o h => ?_, x25.st⟩, upd_same, zD5, (rs.mono l25).append (.cons rd5 .nil), by rw [List.length_append, List.length_singleton]; omega, ?_⟩
                  · rw [rs.length]
                    have : ds.length ≤ sizeLine := line_of hline
                    omega
                  · have ne : a ≠ Da := fun z => by subst z; rw [hD] at h; cases h
                    rw [upd_ne ne]; exact x25.hh _ _ h
                  · have ne : a ≠ Da := fun z => by subst z; rw [zD5] at h; cases h
                    rw [upd_ne ne]; exact x25.zh _ _ h
                  · rw [← hf, Option.map_map]
                    congr 1
                    funext l
                    simp
              · cases hf
            · rename_i hct
              refine ⟨H0, Z0, ρ1, Z2, _, hct, s3, fun b q Z3 H3 x3 => ?_, fun c es q => (nomatch q)⟩
              cases q
              have hD3 : H3 Da = some (.lst acc) := x3.hh _ _ hD2
              have zD3 : Z3 Da = none := by rw [x3.st Da (by rw [hD2]; simp)]; exact zD2
              exact iteF ⟨Z3, acc, done, x2'.trans x3, hD3, zD3, rs.mono (x2.zz.trans x3.zz), by omega, hf⟩
            · cases hf
        · have e : i = ds.length := by omega
          subst e
          rw [List.drop_length] at hf
          have he : done = es := by
            unfold lcD at hf
            simpa using hf
          subst he
          refine .inl ⟨it.2 _ Z' H' x'.zz x'.zh (Nat.le_refl _), ?_⟩
          exact p.ok _ rfl _ Z' H' (x1.trans x') ⟨Da, acc, rfl, x1.hh.free hD, hD', zD', rs⟩
      · cases e2
    · cases e2
section
variable {X : Cx} {T : Tab} {W : WX} {elt tg iter : Expr} {ifs : List Expr} {scope : Scope} {own : List (Str × Nat)} {pos spos py : Pos} {g : FIt} {gt : GT} {ct : FT} {f : FE} {tgr : TG}
theorem pd_lc (hc : X.calm = true) (hN : X.N.Nodup) (hi : PDI X T W tg iter g) (ok : BlkOk X.N X.env.scope scope own) (ht : TgD X.K T tgr gt (own.map (·.2)))
    (hg : ∀ (s : Shared) (H : Hp) (C : Addr) (cl : List (Str × Addr)) (fp : List Addr), PG (X.blk s H scope (compEnvC scope cl C X.env) fp) tg tgr)
    (hif : ∀ (s : Shared) (H : Hp) (C : Addr) (cl : List (Str × Addr)) (fp : List Addr), PDTs (X.blk s H scope (compEnvC scope cl C X.env) fp) T W0 ifs ct)
    (he : ∀ (s : Shared) (H : Hp) (C : Addr) (cl : List (Str × Addr)) (fp : List Addr), PD (X.blk s H scope (compEnvC scope cl C X.env) fp) T W0 elt f) (hs : ∀ x, foldedSetIterable iter X.env x = pure x := by intro _; rfl) :
    PD X T W (.ListComp elt [⟨tg, iter, ifs, 0⟩] scope pos) (eLc (own.map (·.2)) g gt ct f) :=
  PE.imp (pe_lc hc hN hi ok hg hif he hs) fun _ _ _ q => lc_of ht q
theorem pds_setLc {i : Nat} {y : Str} (hc : X.calm = true) (hN : X.N.Nodup) (hy : X.N[i]? = some y) (hyl : X.env.scope.names.lookup y = some .local)
    (hsw : swapsWith (.ListComp elt [⟨tg, iter, ifs, 0⟩] scope pos) (some (.Name y py)) spos.line X.env = pure true) (hi : PDI X T W tg iter g) (ok : BlkOk X.N X.env.scope scope own) (ht : TgD X.K T tgr gt (own.map (·.2)))
    (hg : ∀ (s : Shared) (H : Hp) (C : Addr) (cl : List (Str × Addr)) (fp : List Addr), PG (X.blk s H scope (compEnvC scope cl C X.env) fp) tg tgr)
    (hif : ∀ (s : Shared) (H : Hp) (C : Addr) (cl : List (Str × Addr)) (fp : List Addr), PDTs (X.blk s H scope (compEnvC scope cl C X.env) fp) T W0 ifs ct)
    (he : ∀ (s : Shared) (H : Hp) (C : Addr) (cl : List (Str × Addr)) (fp : List Addr), PD (X.blk s H scope (compEnvC scope cl C X.env) fp) T W0 elt f) (hs : ∀ x, foldedSetIterable iter X.env x = pure x := by intro _; rfl) :
    PDS X T W (.Assign [.Name y py] (.ListComp elt [⟨tg, iter, ifs, 0⟩] scope pos) spos) (sSet i (eLc (own.map (·.2)) g gt ct f)) := by
  refine PS.imp (ps_setLc (te := tD X.K T W0 f) (tt := tDT X.K T W0 ct) hc hN hy hyl hsw hi ok hg hif he hs) fun D σ H ⟨H0, Z0, env, Z, out, h, s, p⟩ => ?_
  refine lc_of ht (tD_bndS h s p fun r v Z1 H1 hk e1 rr s1 => ?_)
  cases r with
  | fro d => cases hk; exact p.nx _ rfl _ Z1 H1 (s1.setFro rr)
  | own ds =>
    cases hk
    obtain ⟨q, vs, rfl, b, hq, zq, rs⟩ := rr
    refine p.nx _ rfl _ Z1 H1 (s1.setOwn (ds := ds) ⟨q, vs, rfl, s.ext.hh.free b, hq, zq, rs⟩ fun j hj hσ => ?_)
    obtain ⟨q', o, e', h', _⟩ := s.ownAt hj hσ
    cases e'
    rw [h'] at b; cases b
  | bor ds => cases hk
end
end Pd

set_option maxHeartbeats 2000000
/-! PdG: how arguments lie, the law's end. -/
namespace Pd
open PySem PySem.Spec L2

section
variable {K : PySem.W.Frag} {T : Tab} {x qual : Str} {params : Arguments} {body : List Stmt} {scope : Scope} {dvs : List V} {kws : List (Str × V)} {f : Addr} {fd : FuncData} {ps : List Str} {n : Nat}
theorem kbn_pos (F : FunD K x qual params body scope [] kws f fd) (hn : ps.length = n)
    (h : ∀ (kV doc pm : Value) (an : Option Addr) (cdv ct : Value) (us : List Value), us.length = ps.length → bindArgs (PySem.W.fnOf x qual params body scope .none kV doc pm an cdv ct) ⟨us, []⟩ = pure (ps.zip us)) :
    KBn K fd ps n [] (fun us _ => us) (fun vs _ => vs) := by
  have B := FunD.bindsA F h
  refine ⟨fun s us ws _ l1 l2 => ?_, fun r _ => r⟩
  show BindsTo s fd ⟨us, []⟩ (ps.zip us)
  exact B s us (by rw [l1, hn])
theorem conv_pos (F : FunD K x qual params body scope [] kws f fd) (hn : ps.length = n)
    (h : ∀ (kV doc pm : Value) (an : Option Addr) (cdv ct : Value) (us : List Value), us.length = ps.length → bindArgs (PySem.W.fnOf x qual params body scope .none kV doc pm an cdv ct) ⟨us, []⟩ = pure (ps.zip us)) :
    Conv K T fd ps n [] (fun ds _ => ds) := ⟨_, _, kbn_pos F hn h, fun _ _ _ _ _ _ _ r _ => r⟩
theorem convI_pos (F : FunD K x qual params body scope [] kws f fd) (hn : ps.length = n + 1)
    (h : ∀ (kV doc pm : Value) (an : Option Addr) (cdv ct : Value) (us : List Value), us.length = ps.length → bindArgs (PySem.W.fnOf x qual params body scope .none kV doc pm an cdv ct) ⟨us, []⟩ = pure (ps.zip us)) :
    ConvI K T fd ps n [] (fun ds _ => ds) := ⟨_, _, kbn_pos F hn h, fun _ _ _ vs _ _ _ _ r _ => ⟨vs, rfl, r⟩⟩
/-- the law's promise from its plain function -/
theorem law_sp {fn : Fn} {H : Hp} {a : Addr} {ns : List Int} (hS : SqL K H a (ns.map V.int)) (h : fn [.lst (ns.map Dt.int)] = some (.ok (.fro (.bl true)))) : spD K T fn [.ref a] H (fun v _ => v = .bl true) (fun _ _ _ => False) := by
  refine ⟨H, [.lst (ns.map Dt.int)], _, Le.refl H, .cons ?_ .nil, h, fun r e v Z' H' _ rr => ?_, fun c es e => (nomatch e)⟩
  · simp only [Rep]
    exact ⟨a, _, rfl, hS, .ints⟩
  · cases e
    simpa only [RRep, Rep] using rr
end
/-- the law's walk, with the numbers' bits told -/
theorem walk_end {l : PySem.W.OpenLaw} {m k : Nat} {q : Program} {loose : List Str} {XP : (Str → Option Value) → Heap → Prop} {YP : World → Heap → Prop} {d : DefRec} {x : Str}
    (hm : l.most = some m) (hm2 : m ≤ sizeLine) (hdf : d.params.defaults = []) (hr : Room k callerA)
    (F : ∀ (w : World) (mg : Str → Option Value) (fa : Addr) (h : Heap), YP w h → h.Ns mainGlobals mg → mg d.name = some (.ref fa) →
      ∃ (K : PySem.W.Frag) (T : Tab) (fd : FuncData) (fn : Fn), K.In h ∧ (∀ (s : Shared) (u : Value), BindsTo s fd ⟨[u], []⟩ [(x, u)]) ∧
        (∀ (ns : List Int), ns.length ≤ m → (∀ z ∈ ns, Builtin.Int.intBits z ≤ 1048576) → fn [.lst (ns.map Dt.int)] = some (.ok (.fro (.bl true)))) ∧
        ∀ base : Heap, K.In base → base.Ns mainGlobals mg → FnOk l.prog w K mg base (L2.CX l.prog w) k fa fd [x] (spD K T fn)) :
    PySem.W.WalkO q loose XP YP l.row.toRowW d [] (fun f vs => PySem.call f vs) := by
  refine Att.attach_callB hm hdf fun w s₀ s₁ mg mb fa o pm cd doc a vs ns Gr Y ho hd hcd hmg hobj hints hlen hbits hg => ?_
  obtain ⟨K, T, fd, fn, KX, hb, hsp, hF⟩ := F w mg fa _ Y Gr.T.g hmg
  refine law_call KX Gr.T.g Gr.T.b Gr.T.builtins Gr.T.nolimit hg hobj hints (Nat.le_trans hlen hm2) hr hF hb (fun H hO hS => law_sp hS (hsp ns hlen hbits)) fun H e s' hx => ?_
  obtain ⟨_, _, _, _, _, _, _, _, _, _, _, _, z⟩ := hx
  exact z
end Pd

set_option maxHeartbeats 2000000
/-! PdH: rules as a printed walk takes them. -/
namespace Pd
open PySem PySem.Spec L2

/-- a def of the module, called by name with all its arguments -/
structure DefOk (P : Program) (w : World) (K : PySem.W.Frag) (mg : Str → Option Value) (base : Heap) (T : Tab) (k : Nat) (x : Str) (n : Nat) (fn : Fn) : Prop where
  ex : ∃ f fd ps, mg x = some (.ref f) ∧ PySem.W.keepIn K (.ref f) = true ∧ Conv K T fd ps n [] (fun ds _ => ds) ∧ FnOk P w K mg base (L2.CX P w) k f fd ps (spD K T fn)
/-- a class of the module, made by name -/
structure ClsOk (P : Program) (w : World) (K : PySem.W.Frag) (mg : Str → Option Value) (base : Heap) (T : Tab) (k : Nat) (x : Str) (c n : Nat) (fi : FI) : Prop where
  ex : ∃ f fd ps, mg x = some (.ref (T.ca c)) ∧ PySem.W.keepIn K (.ref (T.ca c)) = true ∧ Mk K (T.ca c) f ∧ ConvI K T fd ps n [] (fun ds _ => ds) ∧ FnOk P w K mg base (L2.CX P w) k f fd ps (spI K T c fi)
/-- a call: the arguments' data, then the plain function -/
def eCa (n : Nat) (fn : Fn) (fa : FA) : FE := eCall n 0 (fun ds _ => fn ds) fa aNil
section
variable {X : Cx} {T : Tab} {W : WX} {k n : Nat} {fn : Fn} {x : Str} {p pos : Pos} {e : Expr} {es : List Expr} {fa : FA}
theorem pd_callD (D : DefOk X.prog X.w X.K X.mg X.base T k x n fn) (hr : Room k X.A) (tk : Takes X W) (ha : PDA X T W (e :: es) fa) (hg : Gl X x := by rfl)
    (hdb : (x == ("__debug__" : Str)) = false := by decide) (he : starEach (e :: es) X.env = (false, eval e X.env) :: starEach es X.env := by rfl) (hpl : (backTo pos (starEach es X.env)).any (·.1) = false := by rfl) :
    PD X T W (.Call (.Name x p) (e :: es) [] pos) (eCa n fn fa) := by
  obtain ⟨f, fd, ps, hm, hk, hb, F⟩ := D.ex
  exact pd_callV (callV_fn F hr hb tk) hk hg hm ha hdb he hpl
theorem pd_callD0 (D : DefOk X.prog X.w X.K X.mg X.base T k x n fn) (hr : Room k X.A) (tk : Takes X W) (hg : Gl X x := by rfl) (hdb : (x == ("__debug__" : Str)) = false := by decide) :
    PD X T W (.Call (.Name x p) [] [] pos) (eCa n fn aNil) := by
  obtain ⟨f, fd, ps, hm, hk, hb, F⟩ := D.ex
  exact pd_callV0 (callV_fn F hr hb tk) hk hg hm hdb
theorem pd_callC {c : Nat} {fi : FI} (D : ClsOk X.prog X.w X.K X.mg X.base T k x c n fi) (hr : Room (k + 1) X.A) (tk : Takes X W) (ha : PDA X T W (e :: es) fa) (hg : Gl X x := by rfl)
    (hdb : (x == ("__debug__" : Str)) = false := by decide) (he : starEach (e :: es) X.env = (false, eval e X.env) :: starEach es X.env := by rfl) (hpl : (backTo pos (starEach es X.env)).any (·.1) = false := by rfl) :
    PD X T W (.Call (.Name x p) (e :: es) [] pos) (eCa n (mkD c fi) fa) := by
  obtain ⟨f, fd, ps, hm, hk, M, hb, F⟩ := D.ex
  exact pd_callV (callV_make M F hr hb tk) hk hg hm ha hdb he hpl
/-- isinstance(x, T) for a built-in T, asked of built-in kinds alone -/
theorem pd_isB (n : String) {q2 : Pos} {a : Expr} {fa : FE} (hm : X.mg "isinstance" = none) (hmn : X.mg (Str.ofString n) = none) (ha : PD X T W a fa) (hv : bootBuiltins (Str.ofString n) = some (.type n)) (hgn : Gl X (Str.ofString n)) (hnn : (Str.ofString n) ≠ "__name__" := by decide) (hd : ((Str.ofString n) == ("__debug__" : Str)) = false := by decide)
    (hg : Gl X "isinstance" := by rfl) (hs : starEach (a :: [.Name (Str.ofString n) q2]) X.env = (false, eval a X.env) :: starEach [.Name (Str.ofString n) q2] X.env := by rfl) (hs2 : starEach (.Name (Str.ofString n) q2 :: []) X.env = (false, eval (.Name (Str.ofString n) q2) X.env) :: starEach [] X.env := by rfl)
    (hpl : (backTo pos (starEach [.Name (Str.ofString n) q2] X.env)).any (·.1) = false := by rfl) : PD X T W (.Call (.Name "isinstance" p) [a, .Name (Str.ofString n) q2] [] pos) (e1 (gIsi (ansB n [])) fa) :=
  pd_isi (.ty n) (fun t r h => by
    cases t with
    | ty m => exact kit_ty h
    | own c => cases h) (fun c r h => by cases h) hm ha (pe_bltn hgn hmn hv rfl hnn hd) hg hs hs2 hpl
end
end Pd

set_option maxHeartbeats 2000000
/-! PdI: methods, properties, own operators. -/
namespace Pd
open PySem PySem.Spec L2

/-! ### defaults -/
section
variable {K : PySem.W.Frag} {T : Tab} {x qual : Str} {params : Arguments} {body : List Stmt} {scope : Scope} {dvs : List V} {kws : List (Str × V)} {f : Addr} {fd : FuncData} {ps : List Str}
theorem kbn_dfl (F : FunD K x qual params body scope dvs kws f fd) (n j : Nat) (hd : dvs ≠ []) (hn : n + (dvs.length - j) = ps.length)
    (h : ∀ (T : Addr) (kV doc pm : Value) (an : Option Addr) (cdv ct : Value) (us its : List Value), us.length = n → its.length = dvs.length →
      ∃ k, bindArgs (PySem.W.fnOf x qual params body scope (.ref T) kV doc pm an cdv ct) ⟨us, []⟩ = seqItems? (.ref T) >>= k ∧ k (some its.toArray) = pure (ps.zip (us ++ its.drop j))) :
    ∃ ds, KBn K fd ps n [] (fun us _ => us ++ ds) (fun vs _ => vs ++ dvs.drop j) := by
  obtain ⟨ds, hv, hb⟩ := FunD.binds1 F n j hd hn h
  refine ⟨ds, fun s us ws k l1 l2 => ?_, fun r _ => r.append hv⟩
  show BindsTo s fd ⟨us, []⟩ (ps.zip (us ++ ds))
  refine hb s us k ?_
  have := hv.length
  rw [List.length_drop] at this
  rw [List.length_append]
  omega
theorem conv_dfl (F : FunD K x qual params body scope dvs kws f fd) (n j : Nat) (des : List Dt) (hr : ∀ Z, Reps K T Z des (dvs.drop j)) (hd : dvs ≠ []) (hn : n + (dvs.length - j) = ps.length)
    (h : ∀ (T : Addr) (kV doc pm : Value) (an : Option Addr) (cdv ct : Value) (us its : List Value), us.length = n → its.length = dvs.length →
      ∃ k, bindArgs (PySem.W.fnOf x qual params body scope (.ref T) kV doc pm an cdv ct) ⟨us, []⟩ = seqItems? (.ref T) >>= k ∧ k (some its.toArray) = pure (ps.zip (us ++ its.drop j))) :
    Conv K T fd ps n [] (fun ds _ => ds ++ des) := by
  obtain ⟨ds, h⟩ := kbn_dfl F n j hd hn h
  exact ⟨_, _, h, fun Z _ _ _ _ _ _ r _ => r.append (hr Z)⟩
theorem convI_dfl (F : FunD K x qual params body scope dvs kws f fd) (n j : Nat) (des : List Dt) (hr : ∀ Z, Reps K T Z des (dvs.drop j)) (hd : dvs ≠ []) (hn : n + 1 + (dvs.length - j) = ps.length)
    (h : ∀ (T : Addr) (kV doc pm : Value) (an : Option Addr) (cdv ct : Value) (us its : List Value), us.length = n + 1 → its.length = dvs.length →
      ∃ k, bindArgs (PySem.W.fnOf x qual params body scope (.ref T) kV doc pm an cdv ct) ⟨us, []⟩ = seqItems? (.ref T) >>= k ∧ k (some its.toArray) = pure (ps.zip (us ++ its.drop j))) :
    ConvI K T fd ps n [] (fun ds _ => ds ++ des) := by
  obtain ⟨ds, h⟩ := kbn_dfl F (n + 1) j hd hn h
  exact ⟨_, _, h, fun Z _ _ vs _ _ _ _ r _ => ⟨vs ++ dvs.drop j, rfl, r.append (hr Z)⟩⟩
end
/-- a class of the module, made by name; gD: the arguments with the defaults -/
structure ClsG (P : Program) (w : World) (K : PySem.W.Frag) (mg : Str → Option Value) (base : Heap) (T : Tab) (k : Nat) (x : Str) (c n : Nat) (gD : List Dt → List Dt) (fi : FI) : Prop where
  ex : ∃ f fd ps, mg x = some (.ref (T.ca c)) ∧ PySem.W.keepIn K (.ref (T.ca c)) = true ∧ Mk K (T.ca c) f ∧ ConvI K T fd ps n [] (fun ds _ => gD ds) ∧ FnOk P w K mg base (L2.CX P w) k f fd ps (spI K T c fi)
structure DefG (P : Program) (w : World) (K : PySem.W.Frag) (mg : Str → Option Value) (base : Heap) (T : Tab) (k : Nat) (x : Str) (n : Nat) (gD : List Dt → List Dt) (fn : Fn) : Prop where
  ex : ∃ f fd ps, mg x = some (.ref f) ∧ PySem.W.keepIn K (.ref f) = true ∧ Conv K T fd ps n [] (fun ds _ => gD ds) ∧ FnOk P w K mg base (L2.CX P w) k f fd ps (spD K T fn)
/-- a method of a class of the table; n counts self -/
structure MethOk (P : Program) (w : World) (K : PySem.W.Frag) (mg : Str → Option Value) (base : Heap) (T : Tab) (k : Nat) (c : Nat) (m : Str) (n : Nat) (gD : List Dt → List Dt) (fn : Fn) : Prop where
  cls : ClsD K T c
  nofl : m ∉ T.fl c
  ex : ∃ f fd ps, Meth K (T.ca c) m f ∧ Conv K T fd ps n [] (fun ds _ => gD ds) ∧ FnOk P w K mg base (L2.CX P w) k f fd ps (spD K T fn)
section
variable {X : Cx} {T : Tab} {W : WX} {k n : Nat} {fn : Fn} {x : Str} {p pos : Pos} {e : Expr} {es : List Expr} {fa : FA}
theorem pd_callG {gD : List Dt → List Dt} (D : DefG X.prog X.w X.K X.mg X.base T k x n gD fn) (hr : Room k X.A) (tk : Takes X W) (ha : PDA X T W (e :: es) fa) (hg : Gl X x := by rfl)
    (hdb : (x == ("__debug__" : Str)) = false := by decide) (he : starEach (e :: es) X.env = (false, eval e X.env) :: starEach es X.env := by rfl) (hpl : (backTo pos (starEach es X.env)).any (·.1) = false := by rfl) :
    PD X T W (.Call (.Name x p) (e :: es) [] pos) (eCa n (fun ds => fn (gD ds)) fa) := by
  obtain ⟨f, fd, ps, hm, hk, hb, F⟩ := D.ex
  exact pd_callV (callV_fn F hr hb tk) hk hg hm ha hdb he hpl
theorem pd_callCG {c : Nat} {fi : FI} {gD : List Dt → List Dt} (D : ClsG X.prog X.w X.K X.mg X.base T k x c n gD fi) (hr : Room (k + 1) X.A) (tk : Takes X W) (ha : PDA X T W (e :: es) fa) (hg : Gl X x := by rfl)
    (hdb : (x == ("__debug__" : Str)) = false := by decide) (he : starEach (e :: es) X.env = (false, eval e X.env) :: starEach es X.env := by rfl) (hpl : (backTo pos (starEach es X.env)).any (·.1) = false := by rfl) :
    PD X T W (.Call (.Name x p) (e :: es) [] pos) (eCa n (fun ds => mkD c fi (gD ds)) fa) := by
  obtain ⟨f, fd, ps, hm, hk, M, hb, F⟩ := D.ex
  exact pd_callV (callV_make M F hr hb tk) hk hg hm ha hdb he hpl
end

/-! ### o.m(e, ..) -/
/-- the method that an object's class has -/
def pickM (ms : Nat → Option Fn) : Rs → Option (Nat × List Dt × Fn)
  | .fro (.ins c ds) => match ms c with
    | some fn => some (c, ds, fn)
    | none => none
  | _ => none
def eMe (ms : Nat → Option Fn) (fo : FE) (fa : FA) : FE := fun ρ => bnd (fo ρ) fun x => match pickM ms x with
  | some (c, ds, fn) => bnd (fa ρ) fun as => fn (.ins c ds :: as)
  | none => none
theorem pickM_inv {ms : Nat → Option Fn} {x : Rs} {c : Nat} {ds : List Dt} {fn : Fn} (h : pickM ms x = some (c, ds, fn)) : x = .fro (.ins c ds) ∧ ms c = some fn := by
  unfold pickM at h
  split at h
  · split at h
    · cases h; exact ⟨rfl, by assumption⟩
    · cases h
  · cases h
section
variable {X : Cx} {T : Tab} {W : WX} {k : Nat} {ms : Nat → Option Fn} {m : Str} {o e : Expr} {es : List Expr} {apos pos : Pos} {fo : FE} {fa : FA}
/-- what a method call asks of each class that may stand there -/
def MethsOk (X : Cx) (T : Tab) (k : Nat) (m : Str) (n : Nat) (ms : Nat → Option Fn) : Prop :=
  ∀ c fn, ms c = some fn → ∃ gD fn0, MethOk X.prog X.w X.K X.mg X.base T k c m n gD fn0 ∧ fn = fun ds => if ds.length = n then fn0 (gD ds) else none
theorem meth_run {n : Nat} (D : MethsOk X T k m n ms) (hr : Room k X.A) (tk : Takes X W) {pins : List (Addr × Obj)} {s : Shared} {σ : St} {H Z : Hp} {us : List Value} {vs : List V} {c : Nat} {ds as : List Dt} {a : Addr} {fn : Fn} {out : Ex Rs} {Q : VK} (I : Inv X pins σ H s) (zh : Le Z H)
    (rx : Rep X.K T Z (.ins c ds) (.ref a)) (ru : Vals vs us) (rs : Reps X.K T Z as vs) (hm : ms c = some fn) (hf : fn (.ins c ds :: as) = some out) (p : Post X.K T Z H σ W Q out) :
    ∃ f, Meth X.K (T.ca c) m f ∧ wpAny (model X.prog X.w) X.A (call (.ref f) (.ref a :: us)) (EP X pins σ Q) X.xe s := by
  obtain ⟨gD, fn0, M, rfl⟩ := D c fn hm
  obtain ⟨f, fd, ps, Mf, hb, F⟩ := M.ex
  refine ⟨f, Mf, ?_⟩
  have hl : (Dt.ins c ds :: as).length = n := by
    dsimp only at hf
    split at hf
    · assumption
    · cases hf
  dsimp only at hf
  rw [if_pos hl] at hf
  exact callV_fn F hr hb tk pins s σ H Z (.ref a :: us) [] (.ref a :: vs) [] (.ins c ds :: as) [] out Q I zh (.cons rfl ru) .nil (.cons rx rs) .nil hl rfl hf p
theorem ins_of {K : PySem.W.Frag} {Z : Hp} {c : Nat} {ds : List Dt} {v : V} (h : Rep K T Z (.ins c ds) v) : ∃ a dx vs, v = .ref a ∧ Z a = some (.ins (T.ca c) dx ((T.fl c).zip vs)) := by
  simp only [Rep] at h
  obtain ⟨a, dx, vs, rfl, h1, _⟩ := h
  exact ⟨a, dx, vs, rfl, h1⟩
theorem tDA_of {K : PySem.W.Frag} {H0 Z H : Hp} {Z0 : Hx} {env : PEnv} {σ : St} {Q : VK} {out : Ex Rs} {G : List V → Hp → Prop} {kk : List Dt → M Rs} (h : bnd (fa env) kk = some out) (s : SI K T H0 Z0 env σ Z H) (p : Post K T Z H σ W Q out)
    (go : ∀ ds vs Z1 H1, kk ds = some out → Ext4 Z H Z1 H1 → Reps K T Z1 ds vs → G vs H1) : tDA K T W fa σ H G := by
  rcases bnd_cases h with ⟨c, ds, e1, e2⟩ | ⟨ds, e1, e2⟩
  · exact ⟨H0, Z0, env, Z, _, e1, s, fun r q => (nomatch q), fun c' ds' q cls d Z' H' e x => by cases q; exact p.ex _ _ e2 cls d Z' H' e x⟩
  · exact ⟨H0, Z0, env, Z, _, e1, s, fun ds' q vs Z1 H1 x1 rs => by cases q; exact go ds vs Z1 H1 e2 x1 rs, fun c' ds' q => (nomatch q)⟩
theorem pd_meth {pl : Sem Bool} (D : MethsOk X T k m ((e :: es).length + 1) ms) (hr : Room k X.A) (tk : Takes X W) (ho : PD X T W o fo) (ha : PDA X T W (e :: es) fa)
    (hst : starEach (e :: es) X.env = (false, eval e X.env) :: starEach es X.env := by rfl) (hpl : (backTo pos (starEach es X.env)).any (·.1) = false := by rfl)
    (ht : eval (.Call (.Attribute o m apos) (e :: es) [] pos) X.env = (do
      let ov ← eval o X.env
      standAt apos.atName
      let (g, first) ← holding [ov] (getMethod ov m pl)
      callWith pos g first (backTo pos (starEach (e :: es) X.env)) (backToKw pos (keywordEach [] X.env))) := by rfl) :
    PD X T W (.Call (.Attribute o m apos) (e :: es) [] pos) (eMe ms fo fa) := by
  refine ⟨fun pins s σ H Q I h => ?_⟩
  obtain ⟨H0, Z0, env, Z, out, h, s0, po⟩ := h
  refine PySem.W.methodCall_KW (pl := pl) (thn (ho.run pins s σ H (fun v H1 => ∃ c ds fn a Z1, Ext4 Z H Z1 H1 ∧ v = .ref a ∧ Rep X.K T Z1 (.ins c ds) (.ref a) ∧ bnd (fa env) (fun as => fn (.ins c ds :: as)) = some out ∧ ms c = some fn) I
    (tD_bnd h s0 po fun r v Z1 H1 hk x1 rr s1 p1 => ?_)) fun u s1 ⟨v, H1, I1, rv, c, ds, fn, a, Z1, x1, ev, rx, hk, hfn⟩ => ?_) ht
  · split at hk
    · rename_i c ds fn hp
      obtain ⟨rfl, hm⟩ := pickM_inv hp
      obtain ⟨a, dx, vs, rfl, _⟩ := ins_of (T := T) rr
      exact ⟨c, ds, fn, a, Z1, x1, rfl, rr, hk, hm⟩
    · cases hk
  · subst ev
    obtain rfl : u = Value.ref a := rv
    obtain ⟨gD, fn0, M, _⟩ := D c fn hfn
    obtain ⟨a', dx, vs, e, hz⟩ := ins_of (T := T) rx
    cases e
    obtain ⟨f, fd, ps, Mf, hb, F⟩ := M.ex
    refine getmeth_ok I1 (x1.zh _ _ hz) M.cls.cls Mf (lookup_no M.nofl) ?_
    refine PySem.W.callWith_K (first := [.ref a]) (h₀ := X.base) I1.ok.mod.kin Mf.kp (thn (ha.run pos pins s1 σ H1 (fun vs2 H2 => ∀ (s2 : Shared) (us : List Value), Inv X pins σ H2 s2 → Vals vs2 us → wpAny (model X.prog X.w) X.A (call (.ref f) (.ref a :: us)) (EP X pins σ Q) X.xe s2) I1 (tDA_of hk (s0.step x1) (po.step x1) fun as vs' Z2 H2 hk2 x2 rs => ?_)) fun us s2 ⟨vs2, H2, I2, r2, q2⟩ => ⟨I2.kIn, q2 s2 us I2 r2⟩) hst hpl
    intro s2 us I2 r2
    obtain ⟨f', Mf', go⟩ := meth_run D hr tk I2 x2.zh (rx.mono x2.zz) r2 rs hfn hk2 (po.step (x1.trans x2))
    have : f' = f := by
      have e1 := Mf.at_
      rw [Mf'.at_] at e1
      cases e1
      rfl
    subst this
    exact go
theorem pd_meth0 {pl : Sem Bool} (D : MethsOk X T k m 1 ms) (hr : Room k X.A) (tk : Takes X W) (ho : PD X T W o fo)
    (ht : eval (.Call (.Attribute o m apos) [] [] pos) X.env = (do
      let ov ← eval o X.env
      standAt apos.atName
      let (g, first) ← holding [ov] (getMethod ov m pl)
      callWith pos g first (backTo pos (starEach [] X.env)) (backToKw pos (keywordEach [] X.env))) := by rfl) :
    PD X T W (.Call (.Attribute o m apos) [] [] pos) (eMe ms fo aNil) := by
  refine ⟨fun pins s σ H Q I h => ?_⟩
  obtain ⟨H0, Z0, env, Z, out, h, s0, po⟩ := h
  refine PySem.W.methodCall_KW (pl := pl) (thn (ho.run pins s σ H (fun v H1 => ∃ c ds fn a Z1, Ext4 Z H Z1 H1 ∧ v = .ref a ∧ Rep X.K T Z1 (.ins c ds) (.ref a) ∧ fn [.ins c ds] = some out ∧ ms c = some fn) I
    (tD_bnd h s0 po fun r v Z1 H1 hk x1 rr s1 p1 => ?_)) fun u s1 ⟨v, H1, I1, rv, c, ds, fn, a, Z1, x1, ev, rx, hk, hfn⟩ => ?_) ht
  · split at hk
    · rename_i c ds fn hp
      obtain ⟨rfl, hm⟩ := pickM_inv hp
      obtain ⟨a, dx, vs, rfl, _⟩ := ins_of (T := T) rr
      exact ⟨c, ds, fn, a, Z1, x1, rfl, rr, hk, hm⟩
    · cases hk
  · subst ev
    obtain rfl : u = Value.ref a := rv
    obtain ⟨gD, fn0, M, _⟩ := D c fn hfn
    obtain ⟨a', dx, vs, e, hz⟩ := ins_of (T := T) rx
    cases e
    obtain ⟨f, Mf, go⟩ := meth_run D hr tk I1 x1.zh rx .nil .nil hfn hk (po.step x1)
    refine getmeth_ok I1 (x1.zh _ _ hz) M.cls.cls Mf (lookup_no M.nofl) ?_
    exact PySem.W.callWith_K0 (first := [.ref a]) I1.kIn Mf.kp go
end
end Pd

set_option maxHeartbeats 2000000
/-! PdJ: attributes, own operators. -/
namespace Pd
open PySem PySem.Spec L2

/-! ### o.f: a field or a property -/
def okR : M Rs → M Rs
  | some (.ok r) => some (.ok r)
  | _ => none
def gAtt (m : Nat → Option Nat) (pr : Nat → Option Fn) : G1 := fun r => match r with
  | .fro (.ins c ds) => match m c with
    | some j => match ds[j]? with
      | some d => some (.ok (.fro d))
      | none => none
    | none => match pr c with
      | some fn => okR (fn [.ins c ds])
      | none => none
  | _ => none
theorem okR_inv {m : M Rs} {out : Ex Rs} (h : okR m = some out) : ∃ r, m = some (.ok r) ∧ out = .ok r := by
  unfold okR at h
  split at h
  · cases h; exact ⟨_, rfl, rfl⟩
  · cases h
/-- a property of a class of the table -/
structure PropOk (P : Program) (w : World) (K : PySem.W.Frag) (mg : Str → Option Value) (base : Heap) (T : Tab) (k : Nat) (c : Nat) (f : Str) (fn : Fn) : Prop where
  cls : ClsD K T c
  ex : ∃ p g fd ps, PropOf K (T.ca c) f p g ∧ Binds K fd ps [] ∧ FnOk P w K mg base (L2.CX P w) k g fd ps (spD K T fn)
section
variable {X : Cx} {T : Tab} {W : WX} {k : Nat} {e : Expr} {fa : FE} {f : Str} {pos : Pos}
theorem pd_att (m : Nat → Option Nat) (pr : Nat → Option Fn) (hm : ∀ c j, m c = some j → ClsD X.K T c ∧ (T.fl c)[j]? = some f) (hp : ∀ c fn, pr c = some fn → PropOk X.prog X.w X.K X.mg X.base T k c f fn) (hr : Room (k + 1) X.A) (he : PD X T W e fa)
    (hb : attributeBase e f X.env (eval e X.env) = eval e X.env := by rfl) : PD X T W (.Attribute e f pos) (e1 (gAtt m pr) fa) := by
  refine ⟨fun pins s σ H Q I h => ?_⟩
  obtain ⟨H0, Z0, env, Z, out, h, s0, po⟩ := h
  refine attr_of hb (thn (he.run pins s σ H (fun v H1 => ∃ r Z1, gAtt m pr r = some out ∧ Ext4 Z H Z1 H1 ∧ RRep X.K T H Z1 H1 v r) I (tD_bnd h s0 po fun r v Z1 H1 hk x1 rr s1 p1 => ⟨r, Z1, hk, x1, rr⟩)) fun u s1 ⟨v, H1, I1, rv, r, Z1, hk, x1, rr⟩ => ?_)
  have p1 := po.step x1
  unfold gAtt at hk
  split at hk
  · rename_i c ds
    simp only [RRep, Rep] at rr
    obtain ⟨a, dx, vs, rfl, h1, h2, h3⟩ := rr
    obtain rfl : u = Value.ref a := rv
    split at hk
    · rename_i j hj
      split at hk
      · rename_i d hd
        cases hk
        obtain ⟨C, hf⟩ := hm _ _ hj
        obtain ⟨w, h4, h5⟩ := h3.get hd
        exact getattr_ok I1 (x1.zh _ _ h1) C.cls (C.no _ (List.mem_of_getElem? hf)) (lookup_zip C.nd hf h4) fun u' s2 I2 ru => ⟨w, H1, I2, ru, p1.fro x1.zh h5⟩
      · cases hk
    · split at hk
      · rename_i fn hfn
        obtain ⟨r, e1, rfl⟩ := okR_inv hk
        have Pk := hp _ _ hfn
        obtain ⟨p, g, fd, ps, hpo, hb', F⟩ := Pk.ex
        have hsp : spD X.K T fn [.ref a] H1 Q (fun _ _ _ => False) := ⟨Z1, [.ins c ds], _, x1.zh, .cons (by simp only [Rep]; exact ⟨a, dx, vs, rfl, h1, h2, h3⟩) .nil, e1, fun r e => by cases e; exact p1.ok _ rfl, fun c es e => (nomatch e)⟩
        exact getprop_ok (dvs := []) (ds := []) I1 (x1.zh _ _ h1) Pk.cls.cls hpo F hr hb' .nil (fun _ _ _ _ _ _ _ hx => by
          obtain ⟨_, _, _, _, _, _, _, _, _, _, _, _, z⟩ := hx
          exact z) hsp
      · cases hk
  · cases hk
end
/-! ### own operators -/
/-- x op y, x an instance: its class's plain function, if ok -/
def gOwn (g : G2) (okD : Nat → Dt → Bool) (ops : Nat → Option Fn) : G2 := fun x y => match x with
  | .fro (.ins c ds) => match ops c with
    | some fn => match y with
      | .fro d => if okD c d then okR (fn [.ins c ds, d]) else none
      | _ => none
    | none => none
  | x => g x y
def rOwnD (K : PySem.W.Frag) (T : Tab) (okD : Nat → Dt → Bool) (ops : Nat → Option Fn) : R2 := fun x y H Q => ∃ Z c ds d fn r, Le Z H ∧ Rep K T Z (.ins c ds) x ∧ Rep K T Z d y ∧ okD c d = true ∧ ops c = some fn ∧ fn [.ins c ds, d] = some (.ok r) ∧
  ∀ v Z' H', Ext4 Z H Z' H' → RRep K T H Z' H' v r → Q v H'
theorem o2_own {K : PySem.W.Frag} {T : Tab} {W : WX} {r : R2} {g : G2} {okD : Nat → Dt → Bool} {ops : Nat → Option Fn} (h : Op2 K T W r g) : Op2 K T W (fun x y H Q => r x y H Q ∨ rOwnD K T okD ops x y H Q) (gOwn g okD ops) := fun σ B Z H x y v w out Q zh r1 r2 hg p => by
  unfold gOwn at hg
  split at hg
  · rename_i c ds
    split at hg
    · rename_i fn hfn
      split at hg
      · rename_i d
        split at hg
        · rename_i ho
          obtain ⟨r, e1, rfl⟩ := okR_inv hg
          exact .inr ⟨Z, c, ds, d, fn, r, zh, by simpa only [RRep] using r1, by simpa only [RRep] using r2, ho, hfn, e1, p.ok _ rfl⟩
        · cases hg
      · cases hg
    · cases hg
  · exact .inl (h σ B Z H x y v w out Q zh r1 r2 hg p)
section
variable {X : Cx} {T : Tab} {k : Nat} {okD : Nat → Dt → Bool} {ops : Nat → Option Fn} {m : Str}
theorem opr_or {f : Value → Value → Sem Value} {r r' : R2} (h : OpR X f r) (h' : OpR X f r') : OpR X f (fun x y H Q => r x y H Q ∨ r' x y H Q) := fun pins s σ H x y v u Q I rx ry q => q.elim (h pins s σ H x y v u Q I rx ry) (h' pins s σ H x y v u Q I rx ry)
/-- the machine's call of the operator's def -/
theorem own_call (D : MethsOk X T k m 2 ops) (hr : Room k X.A) {pins : List (Addr × Obj)} {s : Shared} {σ : St} {H Z : Hp} {a : Addr} {c : Nat} {ds : List Dt} {d : Dt} {y : V} {u : Value} {fn : Fn} {r : Rs} {Q : VK} (I : Inv X pins σ H s) (zh : Le Z H) (rx : Rep X.K T Z (.ins c ds) (.ref a)) (rd : Rep X.K T Z d y) (ry : RelV y u)
    (hm : ops c = some fn) (hf : fn [.ins c ds, d] = some (.ok r)) (q : ∀ v Z' H', Ext4 Z H Z' H' → RRep X.K T H Z' H' v r → Q v H') :
    ∃ f, Meth X.K (T.ca c) m f ∧ wpAny (model X.prog X.w) X.A (call (.ref f) [.ref a, u]) (PySem.W.CmpBack (EP X pins σ Q)) X.xe s := by
  obtain ⟨f, Mf, go⟩ := meth_run (W := W0) D hr takes_W0 I zh rx (.cons ry .nil) (.cons rd .nil) hm hf ⟨fun r' e => by cases e; exact q, fun c es e => (nomatch e)⟩
  refine ⟨f, Mf, wpAny_mono go (fun w s' z => ?_) fun _ _ x => x⟩
  obtain ⟨v, H', I', rv, qv⟩ := z
  exact SlX.cmpback rv ⟨v, H', I', rv, qv⟩
def sameC (c : Nat) : Dt → Bool
  | .ins c' _ => decide (c' = c)
  | _ => false
theorem inst_of {pins : List (Addr × Obj)} {s : Shared} {σ : St} {H : Hp} {a dx C : Addr} {fs : List (Str × V)} (I : Inv X pins σ H s) (h : H a = some (.ins C dx fs)) : ∃ ox od, PySem.W.InstAt s.heap a ox C (some od) := by
  obtain ⟨mA, J, _⟩ := ins_get I.hok h
  obtain ⟨od, J, _⟩ := J.look
  exact ⟨_, od, J⟩
theorem op_own2 {op : Operator} (hm : PySem.dunder op.info.2 = m) (D : MethsOk X T k m 2 ops) (hr : Room k X.A) (sf : ∀ c fn, ops c = some fn → PySem.W.selfFirst X.K (T.ca c) = true) : OpR X (binaryOp op) (rOwnD X.K T sameC ops) := by
  intro pins s σ H x y v u Q I rx ry ⟨Z, c, ds, d, fn, r, zh, dx, dy, ho, hfn, hf, q⟩
  obtain ⟨a, dx', vs, rfl, hz⟩ := ins_of (T := T) dx
  obtain rfl : v = Value.ref a := rx
  obtain ⟨f, Mf, go⟩ := own_call D hr I zh dx dy ry hfn hf q
  obtain ⟨mm, hF⟩ := I.fr
  obtain ⟨ox, od, J⟩ := inst_of I (zh _ _ hz)
  cases d with
  | ins c' es =>
    obtain rfl : c' = c := by simpa [sameC] using ho
    obtain ⟨b, dy', ws, rfl, hzb⟩ := ins_of (T := T) dy
    obtain rfl : u = Value.ref b := ry
    obtain ⟨ox2, od2, J2⟩ := inst_of I (zh _ _ hzb)
    exact PySem.W.binop_K hF I.ok.mod.kin J J2.type (sf _ _ hfn) (by rw [hm]; exact Mf.at_) Mf.fn go
  | _ => cases ho
/-- what an own == may be asked of: the same class, built-in kinds -/
def eqKind (ns : List String) (c : Nat) (d : Dt) : Bool := match typD d with
  | some (.ty n) => ns.contains n
  | some (.own c') => decide (c' = c)
  | none => false
theorem op_ownEq {op : CmpOp} {ns : List String} (hop : ∀ a b, compareOp op a b = richCompare op a b) (hm : (cmpInfo op).2.1 = m) (D : MethsOk X T k m 2 ops) (hr : Room k X.A) (nf : ∀ c fn, ops c = some fn → (∀ n ∈ ns, PySem.W.notFirst X.K (T.ca c) (.type n) = true) ∧ IsiC X.K T c) :
    OpR X (compareOp op) (rOwnD X.K T (eqKind ns) ops) := by
  intro pins s σ H x y v u Q I rx ry ⟨Z, c, ds, d, fn, r, zh, dx, dy, ho, hfn, hf, q⟩
  obtain ⟨a, dx', vs, rfl, hz⟩ := ins_of (T := T) dx
  obtain rfl : v = Value.ref a := rx
  obtain ⟨f, Mf, go⟩ := own_call D hr I zh dx dy ry hfn hf q
  obtain ⟨mm, hF⟩ := I.fr
  obtain ⟨ox, od, J⟩ := inst_of I (zh _ _ hz)
  obtain ⟨n1, n2⟩ := nf _ _ hfn
  obtain ⟨t, ht, hty, hnt⟩ : ∃ t, typD d = some t ∧ (∀ c', t = .own c' → c' = c) ∧ PySem.W.notFirst X.K (T.ca c) (t.val T) = true := by
    unfold eqKind at ho
    split at ho
    · rename_i n e
      exact ⟨_, e, fun c' z => (nomatch z), n1 _ (by simpa using ho)⟩
    · rename_i c' e
      have : c' = c := by simpa using ho
      subst this
      exact ⟨_, e, fun c2 z => by cases z; rfl, by simp [CR.val, PySem.W.notFirst]⟩
    · cases ho
  have ty := typR_ok (B := H) (r := .fro d) (t := t) (fun c' e => by rw [hty c' e]; exact n2) zh (by simpa only [RRep] using dy) ht
  obtain ⟨PP, kx, kp, _⟩ := kit_of I ry ty
  rw [hop]
  refine PySem.W.cmp_K (op := op) hr.units0 hF I.ok.mod.kin J (kx.ty _ _ I.kIn kp) hnt (by rw [hm]; exact Mf.at_) Mf.fn go
/-- -x, x an instance -/
def gOwn1 (g : G1) (ops : Nat → Option Fn) : G1 := fun x => match x with
  | .fro (.ins c ds) => match ops c with
    | some fn => okR (fn [.ins c ds])
    | none => none
  | x => g x
theorem pd_negO {W : WX} {e : Expr} {fa : FE} {pos : Pos} (D : MethsOk X T k "__neg__" 1 ops) (hr : Room k X.A) (ha : PD X T W e fa) : PD X T W (.UnaryOp .USub e pos) (e1 (gOwn1 gNeg ops) fa) := by
  have hu : UnR X (unaryOp .USub) (fun x H Q => (∃ i, x = .int i ∧ Q (.int (-i)) H) ∨ ∃ Z c ds fn r, Le Z H ∧ Rep X.K T Z (.ins c ds) x ∧ ops c = some fn ∧ fn [.ins c ds] = some (.ok r) ∧ ∀ v Z' H', Ext4 Z H Z' H' → RRep X.K T H Z' H' v r → Q v H') := by
    intro pins s σ H x v Q I rx q
    rcases q with ⟨i, rfl, q⟩ | ⟨Z, c, ds, fn, r, zh, dx, hfn, hf, q⟩
    · exact un_neg pins s σ H (.int i) v Q I rx ⟨i, rfl, q⟩
    · obtain ⟨a, dx', vs, rfl, hz⟩ := ins_of (T := T) dx
      obtain rfl : v = Value.ref a := rx
      obtain ⟨f, Mf, go⟩ := meth_run (W := W0) D hr takes_W0 I zh dx .nil .nil hfn hf ⟨fun r' e => by cases e; exact q, fun c es e => (nomatch e)⟩
      obtain ⟨mm, hF⟩ := I.fr
      obtain ⟨ox, od, J⟩ := inst_of I (zh _ _ hz)
      exact PySem.W.ksp_neg hF I.ok.mod.kin J Mf.at_ Mf.fn go
  refine pd_un hu (fun σ B Z H x v out Q zh r1 hg p => ?_) ha
  unfold gOwn1 at hg
  split at hg
  · rename_i c ds
    split at hg
    · rename_i fn hfn
      obtain ⟨r, e1, rfl⟩ := okR_inv hg
      exact .inr ⟨Z, c, ds, fn, r, zh, by simpa only [RRep] using r1, hfn, e1, p.ok _ rfl⟩
    · cases hg
  · rename_i hx
    unfold gNeg at hg
    split at hg
    · cases hg
      simp only [RRep, Rep] at r1
      subst r1
      exact .inl ⟨_, rfl, p.fro zh (by simp only [Rep])⟩
    · cases hg
end
end Pd

set_option maxHeartbeats 2000000
/-! PdK: what the head tells: the functions by paths of their own, facts of classes. -/
namespace Pd
open PySem PySem.Spec L2
/-- the function behind a property, a static method -/
def behind (w : String) (C m : Str) (K : PySem.W.Frag) : Addr := match PySem.W.recIn K (He.ma K (He.ga K C) m) w with
  | some (.ref g :: _) => g
  | _ => 0
def atG (x : Str) (K : PySem.W.Frag) : Addr := He.ga K x
def atM (C m : Str) (K : PySem.W.Frag) : Addr := He.ma K (He.ga K C) m
structure DefP where
  loc : PySem.W.Frag → Addr
  nm : Str
  qn : Str
  par : Arguments
  bod : List Stmt
  sco : Scope
  df : List He.Dv := []
abbrev Told : Type := Option (Str × Str × Arguments × FuncBody × Scope × Addr × List (Str × Addr) × Addr)
def seenAt (K : PySem.W.Frag) (a : Addr) : Told := match K.lookup a with
  | some o => (match o.data with
    | .func fd => some (fd.name, fd.qualname, fd.params, fd.body, fd.scope, fd.globals, fd.closure, fd.builtins)
    | _ => none)
  | none => none
def DefP.want (d : DefP) : Told := some (d.nm, d.qn, d.par, .stmts d.bod, d.sco, mainGlobals, [], builtinsNs)
def DefP.dv (d : DefP) (K : PySem.W.Frag) : List V := d.df.map fun q => q.v K
def DefP.good (d : DefP) (K : PySem.W.Frag) : Bool := PySem.W.keepIn K (.ref (d.loc K)) && match K.lookup (d.loc K) with
  | some o => (match o.data with
    | .func fd => PySem.W.codeIn K fd.code d.qn && He.dflB K fd.defaults (d.dv K)
    | _ => false)
  | none => false
theorem DefP.fund {d : DefP} {K : PySem.W.Frag} (e : seenAt K (d.loc K) = d.want) (g : d.good K = true) : ∃ fd, FunD K d.nm d.qn d.par d.bod d.sco (d.dv K) [] (d.loc K) fd := by
  unfold DefP.good at g
  obtain ⟨kp, g2⟩ := Bool.and_eq_true_iff.mp g
  unfold seenAt at e
  generalize hl : K.lookup (d.loc K) = o at e g2
  match o, e, g2 with
  | some ⟨oc, od, .func ⟨n1, n2, n3, n4, n5, n6, n7, n8, n9, n10, n11, n12, n13, n14, n15⟩, osl⟩, e, g2 =>
    have e2 : (some (n1, n2, n3, n4, n5, n6, n7, n15) : Told) = some (d.nm, d.qn, d.par, .stmts d.bod, d.sco, mainGlobals, [], builtinsNs) := e
    simp only [Option.some.injEq, Prod.mk.injEq] at e2
    obtain ⟨h1, h2, h3, h4, h5, h6, h7, h8⟩ := e2
    subst h1 h2 h3 h4 h5 h6 h7 h8
    have g3 : (PySem.W.codeIn K n13 d.qn && He.dflB K n8 (d.dv K)) = true := g2
    obtain ⟨k1, k2⟩ := Bool.and_eq_true_iff.mp g3
    exact ⟨_, ⟨oc, od, n8, n9, n10, n11, n12, n13, n14, osl, rfl, hl, k1, He.dflB_ok k2, .inl rfl⟩, kp⟩
/-- all that is told of K -/
abbrev AlP : Type := Bool × List Told
def lookP (fa : List He.Fa) (fn : List DefP) (ex : PySem.W.Frag → Bool) (K : PySem.W.Frag) : AlP := ((fa.all fun q => q.ok K) && ((fn.all fun d => d.good K) && ex K), fn.map fun d => seenAt K (d.loc K))
def askP (fn : List DefP) : AlP := (true, fn.map DefP.want)
def TellsP (fa : List He.Fa) (fn : List DefP) (ex : PySem.W.Frag → Bool) (K : PySem.W.Frag) : Prop := lookP fa fn ex K = askP fn
def seeP (n : Nat) (fa : List He.Fa) (fn : List DefP) (ex : PySem.W.Frag → Bool) (g : Addr → Option Obj) : AlP := lookP fa fn ex (He.frG g (He.asD g n))
def hookP (n : Nat) (fa : List He.Fa) (fn : List DefP) (ex : PySem.W.Frag → Bool) : PySem.W.Hook where
  α := AlP
  obs s := seeP n fa fn ex s.heap.get?
  val _ := askP fn
  says _ h := ∃ K : PySem.W.Frag, K.In h ∧ TellsP fa fn ex K
  of _ _ e := ⟨_, He.frG_in, e⟩
  keeps _ _ _ q k := let ⟨K, h1, h2⟩ := q; ⟨K, h1.keeps k, h2⟩
theorem seeP_eq {n : Nat} {fa : List He.Fa} {fn : List DefP} {ex : PySem.W.Frag → Bool} {g : Addr → Option Obj} {s : Shared} (h : ∀ a, g a = s.heap.get? a) : seeP n fa fn ex g = (hookP n fa fn ex).obs s := by
  rw [funext h]
  rfl
section
variable {fa : List He.Fa} {fn : List DefP} {ex : PySem.W.Frag → Bool} {K : PySem.W.Frag}
theorem TellsP.fact (c : TellsP fa fn ex K) (i : Nat) {q : He.Fa} (h : fa[i]? = some q := by rfl) : q.ok K = true := by
  have h1 := Bool.and_eq_true_iff.mp (congrArg (fun z : AlP => z.1) c : _ = true)
  exact List.all_eq_true.mp h1.1 q (List.mem_of_getElem? h)
theorem TellsP.more (c : TellsP fa fn ex K) : ex K = true := by
  have h1 := Bool.and_eq_true_iff.mp (congrArg (fun z : AlP => z.1) c : _ = true)
  exact (Bool.and_eq_true_iff.mp h1.2).2
theorem TellsP.fun_ (c : TellsP fa fn ex K) (i : Nat) {d : DefP} (h : fn[i]? = some d := by rfl) : ∃ fd, FunD K d.nm d.qn d.par d.bod d.sco (d.dv K) [] (d.loc K) fd := by
  have h1 := Bool.and_eq_true_iff.mp (congrArg (fun z : AlP => z.1) c : _ = true)
  have g := List.all_eq_true.mp (Bool.and_eq_true_iff.mp h1.2).1 d (List.mem_of_getElem? h)
  have e : fn.map (fun d => seenAt K (d.loc K)) = fn.map DefP.want := congrArg (fun z : AlP => z.2) c
  have e2 := congrArg (fun l => l[i]?) e
  simp only [List.getElem?_map, h, Option.map_some, Option.some.injEq] at e2
  exact DefP.fund e2 g
end
/-! ### Booleans of K -/
def bltB (x : Str) (id : String) (K : PySem.W.Frag) : Bool := He.eqO (PySem.W.nsIn K mainGlobals x) (some (some (.builtin id)))
theorem bltB_ok {x : Str} {id : String} {K : PySem.W.Frag} {h : Heap} {mg : Str → Option Value} (X : K.In h) (G : h.Ns mainGlobals mg) (c : bltB x id K = true) : mg x = some (.builtin id) := PySem.W.mg_of X G (He.eqO_ok c)
def propB (C f : Str) (K : PySem.W.Frag) : Bool := He.eqO (PySem.W.findIn K (.ref (He.ga K C)) f) (some (some (.ref (atM C f K)))) && (He.eqO (PySem.W.specialIn K (.ref (atM C f K)) "__get__") (some (some (.builtin "property.__get__"))) &&
  (decide (PySem.W.takesIn K (.ref (atM C f K)) = some true) && match PySem.W.recIn K (atM C f K) "property" with
    | some (.ref g :: _) => decide (g = behind "property" C f K)
    | _ => false))
theorem propB_ok {C f : Str} {K : PySem.W.Frag} (c : propB C f K = true) : PropOf K (He.ga K C) f (atM C f K) (behind "property" C f K) := by
  unfold propB at c
  simp only [Bool.and_eq_true] at c
  obtain ⟨c1, c2, c3, c4⟩ := c
  refine ⟨He.eqO_ok c1, He.eqO_ok c2, of_decide_eq_true c3, ?_⟩
  split at c4
  · rename_i g rest e
    rw [of_decide_eq_true c4] at e
    exact ⟨rest, e⟩
  · cases c4
def isiB (C : Str) (K : PySem.W.Frag) : Bool := He.eqO (PySem.W.findIn K (.ref (He.ga K C)) "__class__") (some (some (.builtin "object.__class__"))) && decide (PySem.W.mroIn K (He.ga K C) (.type "object") = some true)
def isi0 (K : PySem.W.Frag) : Bool := He.eqO (PySem.W.specialIn K (.builtin "object.__class__") "__get__") (some (some (.builtin "getset_descriptor.__get__"))) && decide (PySem.W.takesIn K (.builtin "object.__class__") = some true)
theorem isiB_ok {T : Tab} {c : Nat} {C : Str} {K : PySem.W.Frag} (hc : Cls K (T.ca c)) (hT : T.ca c = He.ga K C) (c0 : isi0 K = true) (cc : isiB C K = true) : IsiC K T c := by
  obtain ⟨a1, a2⟩ := Bool.and_eq_true_iff.mp c0
  obtain ⟨b1, b2⟩ := Bool.and_eq_true_iff.mp cc
  exact ⟨hc, by rw [hT]; exact He.eqO_ok b1, He.eqO_ok a1, of_decide_eq_true a2, by rw [hT]; exact of_decide_eq_true b2⟩
/-- kitOne's answers: own class against own class, built-in kinds against own, own against built-in kinds -/
def kitCC (C D : Str) (b : Bool) (K : PySem.W.Frag) : Bool := decide (PySem.W.kitOne K (.ref (He.ga K C)) (.ref (He.ga K D)) = some b)
def kitTC (n : String) (D : Str) (K : PySem.W.Frag) : Bool := decide (PySem.W.kitOne K (.type n) (.ref (He.ga K D)) = some false)
def kitCT (C : Str) (n : String) (K : PySem.W.Frag) : Bool := decide (PySem.W.kitOne K (.ref (He.ga K C)) (.type n) = some false)
def nfB (C : Str) (n : String) (K : PySem.W.Frag) : Bool := PySem.W.notFirst K (He.ga K C) (.type n)
def sfB (C : Str) (K : PySem.W.Frag) : Bool := PySem.W.selfFirst K (He.ga K C)
theorem look_mem {c : Nat} {r : Bool} : ∀ {cs : List (Nat × Bool)}, cs.lookup c = some r → (c, r) ∈ cs
  | [], h => by cases h
  | (d, b) :: cs, h => by
    by_cases e : c = d
    · subst e
      simp [List.lookup] at h
      subst h
      exact List.mem_cons_self
    · have eb : (c == d) = false := beq_eq_false_iff_ne.mpr e
      simp only [List.lookup, eb] at h
      exact List.mem_cons_of_mem _ (look_mem h)
/-- isinstance against an own class: the answer by the kind -/
def ansC (ns : List String) (cs : List (Nat × Bool)) : CR → Option Bool
  | .ty m => if ns.contains m then some false else none
  | .own c => cs.lookup c
/-- isinstance against a built-in kind, own classes of cs among the asked -/
theorem ansB_ok {K : PySem.W.Frag} {T : Tab} {n : String} {cs : List Nat} (h : ∀ c ∈ cs, PySem.W.kitOne K (.ref (T.ca c)) (.type n) = some false) : ∀ t r, ansB n cs t = some r → PySem.W.kitOne K (t.val T) ((CR.ty n).val T) = some r := by
  intro t r e
  cases t with
  | ty m => exact kit_ty e
  | own c =>
    have e2 : (if cs.contains c then some false else none) = some r := e
    split at e2
    · rename_i hc
      cases e2
      exact h c (by simpa using hc)
    · cases e2
theorem ansC_ok {K : PySem.W.Frag} {T : Tab} {d : Nat} {ns : List String} {cs : List (Nat × Bool)} (h1 : ∀ n ∈ ns, PySem.W.kitOne K (.type n) (.ref (T.ca d)) = some false) (h2 : ∀ q ∈ cs, PySem.W.kitOne K (.ref (T.ca q.1)) (.ref (T.ca d)) = some q.2) :
    ∀ t r, ansC ns cs t = some r → PySem.W.kitOne K (t.val T) ((CR.own d).val T) = some r := by
  intro t r e
  cases t with
  | ty m =>
    have e2 : (if ns.contains m then some false else none) = some r := e
    split at e2
    · rename_i hc
      cases e2
      exact h1 m (by simpa using hc)
    · cases e2
  | own c =>
    have e2 : cs.lookup c = some r := e
    exact h2 (c, r) (look_mem e2)
end Pd

set_option maxHeartbeats 2000000
/-! PdL: the facts as a printed walk asks for them. -/
namespace Pd
open PySem PySem.Spec L2
def sDead : FS := fun _ => none
def eDead : FE := fun _ => none
/-- what is known of a module -/
def FxP (fa : List He.Fa) (fn : List DefP) (bs : List (PySem.W.Frag → Bool)) (K : PySem.W.Frag) (mg : Str → Option Value) : Prop := ∃ h : Heap, K.In h ∧ h.Ns mainGlobals mg ∧ TellsP fa fn (fun K => bs.all fun b => b K) K
section
variable {fa : List He.Fa} {fn : List DefP} {bs : List (PySem.W.Frag → Bool)} {K : PySem.W.Frag} {mg : Str → Option Value} {T : Tab}
theorem FxP.free (fx : FxP fa fn bs K mg) (i : Nat) {x : Str} (h : fa[i]? = some (.free x) := by rfl) : mg x = none := by
  obtain ⟨hp, X, G, c⟩ := fx
  exact He.free_ok X G (c.fact i h)
theorem FxP.glo (fx : FxP fa fn bs K mg) (i : Nat) {x : Str} (h : fa[i]? = some (.glo x) := by rfl) : mg x = some (.ref (He.ga K x)) := by
  obtain ⟨hp, X, G, c⟩ := fx
  exact He.glo_ok X G (c.fact i h)
theorem FxP.fact (fx : FxP fa fn bs K mg) (i : Nat) {q : He.Fa} (h : fa[i]? = some q := by rfl) : q.ok K = true := by
  obtain ⟨hp, X, G, c⟩ := fx
  exact c.fact i h
theorem FxP.bool (fx : FxP fa fn bs K mg) (i : Nat) {b : PySem.W.Frag → Bool} (h : bs[i]? = some b := by rfl) : b K = true := by
  obtain ⟨hp, X, G, c⟩ := fx
  exact List.all_eq_true.mp c.more b (List.mem_of_getElem? h)
theorem FxP.blt (fx : FxP fa fn bs K mg) (i : Nat) {x : Str} {id : String} (h : bs[i]? = some (bltB x id) := by rfl) : mg x = some (.builtin id) := by
  have b := fx.bool i h
  obtain ⟨hp, X, G, c⟩ := fx
  exact bltB_ok X G b
theorem FxP.fun_ (fx : FxP fa fn bs K mg) (i : Nat) {d : DefP} (h : fn[i]? = some d := by rfl) : ∃ fd, FunD K d.nm d.qn d.par d.bod d.sco (d.dv K) [] (d.loc K) fd := by
  obtain ⟨hp, X, G, c⟩ := fx
  exact c.fun_ i h
theorem FxP.cls (fx : FxP fa fn bs K mg) (i : Nat) {x : Str} (h : fa[i]? = some (.cls x) := by rfl) : Cls K (He.ga K x) := He.cls_ok (fx.fact i h)
theorem FxP.noat (fx : FxP fa fn bs K mg) (i : Nat) {x f : Str} (h : fa[i]? = some (.noat x f) := by rfl) : NoAttr K (He.ga K x) f := He.noat_ok (fx.fact i h)
theorem FxP.meth (fx : FxP fa fn bs K mg) (i : Nat) {x m : Str} (h : fa[i]? = some (.meth x m) := by rfl) : Meth K (He.ga K x) m (atM x m K) := He.meth_ok (fx.fact i h)
theorem FxP.mkr (fx : FxP fa fn bs K mg) (i : Nat) {x : Str} (h : fa[i]? = some (.mkr x) := by rfl) : Mk K (He.ga K x) (atM x "__init__" K) := He.mkr_ok (fx.fact i h)
/-- the law's own def -/
theorem law_of {h : Heap} {f : Addr} (X : K.In h) (G : h.Ns mainGlobals mg) (c : TellsP fa fn (fun K => bs.all fun b => b K) K) {x : Str} (hfa : mg x = some (.ref f)) (i j : Nat) {d : DefP} (h1 : fn[i]? = some d) (h2 : fa[j]? = some (.glo x)) (hl : d.loc K = He.ga K x) (hd : d.df = [])
    {p : Str} (hb : ∀ (kV doc pm : Value) (an : Option Addr) (cdv ct : Value) (us : List Value), us.length = 1 → bindArgs (PySem.W.fnOf d.nm d.qn d.par d.bod d.sco .none kV doc pm an cdv ct) ⟨us, []⟩ = pure ([p].zip us)) :
    ∃ fd, FunD K d.nm d.qn d.par d.bod d.sco [] [] f fd ∧ ∀ (s : Shared) (v : Value), BindsTo s fd ⟨[v], []⟩ [(p, v)] := by
  obtain ⟨fd, F⟩ := c.fun_ i h1
  have e := hfa.symm.trans (He.glo_ok X G (c.fact j h2))
  cases e
  have F2 : FunD K d.nm d.qn d.par d.bod d.sco [] [] (He.ga K x) fd := by
    rw [← hl]
    have : d.dv K = [] := by unfold DefP.dv; rw [hd]; rfl
    rw [← this]
    exact F
  exact ⟨fd, F2, fun s v => FunD.bindsA (ps := [p]) F2 hb s [v] rfl⟩
theorem convI_full {fd : FuncData} {ps ks : List Str} {n : Nat} (h : ConvI K T fd ps n ks (fun ds _ => ds ++ [])) : ConvI K T fd ps n ks (fun ds _ => ds) := by
  simpa only [List.append_nil] using h
theorem conv_full {fd : FuncData} {ps ks : List Str} {n : Nat} (h : Conv K T fd ps n ks (fun ds _ => ds ++ [])) : Conv K T fd ps n ks (fun ds _ => ds) := by
  simpa only [List.append_nil] using h
end
section
variable {X : Cx} {T : Tab} {W : WX} {a : Expr} {fa : FE} {p q2 pos : Pos}
/-- isinstance(e, T) for a built-in T, own classes of cs among the asked -/
theorem pd_isT (n : String) (cs : List Nat) (hk : ∀ c ∈ cs, PySem.W.kitOne X.K (.ref (T.ca c)) (.type n) = some false ∧ IsiC X.K T c) (hm : X.mg "isinstance" = none) (hmn : X.mg (Str.ofString n) = none) (ha : PD X T W a fa) (hv : bootBuiltins (Str.ofString n) = some (.type n)) (hgn : Gl X (Str.ofString n) := by rfl)
    (hnn : (Str.ofString n) ≠ "__name__" := by decide) (hd : ((Str.ofString n) == ("__debug__" : Str)) = false := by decide)
    (hg : Gl X "isinstance" := by rfl) (hs : starEach (a :: [.Name (Str.ofString n) q2]) X.env = (false, eval a X.env) :: starEach [.Name (Str.ofString n) q2] X.env := by rfl) (hs2 : starEach (.Name (Str.ofString n) q2 :: []) X.env = (false, eval (.Name (Str.ofString n) q2) X.env) :: starEach [] X.env := by rfl)
    (hpl : (backTo pos (starEach [.Name (Str.ofString n) q2] X.env)).any (·.1) = false := by rfl) : PD X T W (.Call (.Name "isinstance" p) [a, .Name (Str.ofString n) q2] [] pos) (e1 (gIsi (ansB n cs)) fa) :=
  pd_isi (.ty n) (ansB_ok fun c hc => (hk c hc).1) (fun c r h => by
    have e2 : (if cs.contains c then some false else none) = some r := h
    split at e2
    · rename_i hc
      exact (hk c (by simpa using hc)).2
    · cases e2) hm ha (pe_bltn hgn hmn hv rfl hnn hd) hg hs hs2 hpl
/-- isinstance(e, C) for an own class C -/
theorem pd_isC (d : Nat) (ns : List String) (cs : List (Nat × Bool)) {x : Str} (h1 : ∀ n ∈ ns, PySem.W.kitOne X.K (.type n) (.ref (T.ca d)) = some false) (h2 : ∀ q ∈ cs, PySem.W.kitOne X.K (.ref (T.ca q.1)) (.ref (T.ca d)) = some q.2 ∧ IsiC X.K T q.1)
    (hm : X.mg "isinstance" = none) (hx : X.mg x = some (.ref (T.ca d))) (ha : PD X T W a fa) (hgx : Gl X x := by rfl) (hdb : (x == ("__debug__" : Str)) = false := by decide)
    (hg : Gl X "isinstance" := by rfl) (hs : starEach (a :: [.Name x q2]) X.env = (false, eval a X.env) :: starEach [.Name x q2] X.env := by rfl) (hs2 : starEach (.Name x q2 :: []) X.env = (false, eval (.Name x q2) X.env) :: starEach [] X.env := by rfl)
    (hpl : (backTo pos (starEach [.Name x q2] X.env)).any (·.1) = false := by rfl) : PD X T W (.Call (.Name "isinstance" p) [a, .Name x q2] [] pos) (e1 (gIsi (ansC ns cs)) fa) :=
  pd_isi (.own d) (ansC_ok h1 fun q hq => (h2 q hq).1) (fun c r h => (h2 (c, r) (look_mem h)).2) hm ha (pe_glob hgx hx rfl hdb) hg hs hs2 hpl
/-- a statement that is not reached -/
theorem pds_dead {st : Stmt} : PDS X T W st sDead := ⟨fun pins s σ H D I ⟨H0, Z0, env, Z, out, h, _⟩ => by cases h⟩
theorem pd_dead {e : Expr} : PD X T W e eDead := ⟨fun pins s σ H Q I ⟨H0, Z0, env, Z, out, h, _⟩ => by cases h⟩
end
end Pd

set_option maxHeartbeats 2000000
/-! PdO: tables by class. -/
namespace Pd
open PySem PySem.Spec L2
def tbl {α : Type} (l : List (Nat × α)) (c : Nat) : Option α := l.lookup c
theorem tbl_mem {α : Type} {c : Nat} {r : α} : ∀ {l : List (Nat × α)}, tbl l c = some r → (c, r) ∈ l
  | [], h => by cases h
  | (d, b) :: l, h => by
    by_cases e : c = d
    · subst e
      have h2 : ((c, b) :: l).lookup c = some r := h
      simp [List.lookup] at h2
      subst h2
      exact List.mem_cons_self
    · have eb : (c == d) = false := beq_eq_false_iff_ne.mpr e
      have h2 : ((d, b) :: l).lookup c = some r := h
      simp only [List.lookup, eb] at h2
      exact List.mem_cons_of_mem _ (tbl_mem h2)
theorem tbl_all {α : Type} {l : List (Nat × α)} {Q : Nat → α → Prop} (h : ∀ q ∈ l, Q q.1 q.2) : ∀ c r, tbl l c = some r → Q c r := fun c r e => h (c, r) (tbl_mem e)
theorem all_nil {β : Type} {Q : β → Prop} : ∀ q ∈ ([] : List β), Q q := fun q h => (nomatch h)
theorem all_cons {β : Type} {Q : β → Prop} {a : β} {l : List β} (h : Q a) (t : ∀ q ∈ l, Q q) : ∀ q ∈ a :: l, Q q := fun q hq => by
  rcases List.mem_cons.mp hq with e | e
  · rw [e]; exact h
  · exact t q e
/-- a method's function, its arguments counted -/
def mfn (n : Nat) (gD : List Dt → List Dt) (fn : Fn) : Fn := fun ds => if ds.length = n then fn (gD ds) else none
theorem mfn_run {n : Nat} {gD : List Dt → List Dt} {fn : Fn} {ds : List Dt} (h : ds.length = n := by rfl) : mfn n gD fn ds = fn (gD ds) := if_pos h
section
variable {P : Program} {w : World} {K : PySem.W.Frag} {mg : Str → Option Value} {base : Heap} {T : Tab} {j k c n : Nat} {m f : Str} {gD : List Dt → List Dt} {fn : Fn}
theorem MethOk.mono (h : MethOk P w K mg base T j c m n gD fn) (hj : j ≤ k) : MethOk P w K mg base T k c m n gD fn := by
  obtain ⟨h1, h2, g, fd, ps, a, b, F⟩ := h
  exact ⟨h1, h2, g, fd, ps, a, b, F.mono hj⟩
theorem PropOk.mono (h : PropOk P w K mg base T j c f fn) (hj : j ≤ k) : PropOk P w K mg base T k c f fn := by
  obtain ⟨h1, p, g, fd, ps, a, b, F⟩ := h
  exact ⟨h1, p, g, fd, ps, a, b, F.mono hj⟩
theorem ClsG.mono {x : Str} {fi : FI} (h : ClsG P w K mg base T j x c n gD fi) (hj : j ≤ k) : ClsG P w K mg base T k x c n gD fi := by
  obtain ⟨g, fd, ps, a, b, d, e, F⟩ := h
  exact ⟨g, fd, ps, a, b, d, e, F.mono hj⟩
theorem DefG.mono {x : Str} (h : DefG P w K mg base T j x n gD fn) (hj : j ≤ k) : DefG P w K mg base T k x n gD fn := by
  obtain ⟨g, fd, ps, a, b, d, F⟩ := h
  exact ⟨g, fd, ps, a, b, d, F.mono hj⟩
end
section
variable {X : Cx} {T : Tab} {k c n : Nat} {m : Str} {gD : List Dt → List Dt} {fn : Fn} {l : List (Nat × Fn)}
theorem meths_nil : MethsOk X T k m n (tbl []) := fun c fn h => (nomatch h)
theorem meths_cons (h : MethOk X.prog X.w X.K X.mg X.base T k c m n gD fn) (t : MethsOk X T k m n (tbl l)) : MethsOk X T k m n (tbl ((c, mfn n gD fn) :: l)) := fun c' fn' h' => by
  by_cases e : c' = c
  · subst e
    have h2 : ((c', mfn n gD fn) :: l).lookup c' = some fn' := h'
    simp [List.lookup] at h2
    subst h2
    exact ⟨gD, fn, h, rfl⟩
  · have eb : (c' == c) = false := beq_eq_false_iff_ne.mpr e
    have h2 : ((c, mfn n gD fn) :: l).lookup c' = some fn' := h'
    simp only [List.lookup, eb] at h2
    exact t c' fn' h2
end
end Pd

set_option maxHeartbeats 2000000
/-! PdP: raise. -/
namespace Pd
open PySem PySem.Spec L2
def sRaise (c : Nat) : FS := fun ρ => some (.xc c [] ρ)
/-- what a raise asks of a class below ValueError -/
structure ExcK (K : PySem.W.Frag) (C : Addr) : Prop where
  ex : PySem.W.excIn K C He.veBase "ValueError.__new__" = true ∧ PySem.W.keepIn K (.ref C) = true ∧ PySem.W.subIn K (.ref C) (.type "BaseException") = some true ∧ PySem.W.typeIn K (.ref C) = some (.type "type")
theorem FxP.exc {fa : List He.Fa} {fn : List DefP} {bs : List (PySem.W.Frag → Bool)} {K : PySem.W.Frag} {mg : Str → Option Value} (fx : FxP fa fn bs K mg) (i : Nat) {x : Str} (h : fa[i]? = some (.exc x) := by rfl) : ExcK K (He.ga K x) := ⟨He.exc_ok (fx.fact i h)⟩
section
variable {X : Cx} {T : Tab} {W : WX} {x m : Str} {j : Nat} {p p2 pos rpos : Pos}
theorem pds_raise (c : Nat) (hc : X.calm = true) (tk : Takes X W) (k : ExcK X.K (T.ca c)) (gC : X.mg x = some (.ref (T.ca c))) (hg : Gl X x := by rfl) (hdb : (x == ("__debug__" : Str)) = false := by decide) :
    PDS X T W (.Raise (some (.Call (.Name x p) [.Constant (.str m) j p2] [] pos)) none rpos) (sRaise c) := by
  obtain ⟨e1, e2, e3, e4⟩ := k.ex
  refine PS.imp (ps_raise hc tk (pmk_own PySem.F.excBase_ValueError e1 gC e2 (raises_own e3 e4) hg hdb)) fun D σ H ⟨H0, Z0, env, Z, out, h, s, po⟩ => ?_
  cases h
  exact po.xc _ _ _ rfl _ _ σ Z H s ⟨rfl, .inl ⟨rfl, rfl⟩⟩
end
end Pd

set_option maxHeartbeats 2000000
/-! PdX: try .. except, the handler returns a truth value. -/
namespace Pd
open PySem PySem.Spec L2
/-- what is asked of a caught error's class -/
def excB (C : Str) (K : PySem.W.Frag) : Bool := He.eqO (PySem.W.findIn K (.ref (He.ga K C)) "__getattribute__") (some (some (.builtin "BaseException.__getattribute__"))) && (He.eqO (PySem.W.findIn K (.ref (He.ga K C)) "__getattr__") (some none) &&
  (decide (PySem.W.subIn K (.ref (He.ga K C)) (.type "BaseException") = some true) && (PySem.W.hasDictIn K (He.ga K C) && (He.eqO (PySem.W.findIn K (.ref (He.ga K C)) "__class__") (some (some (.builtin "object.__class__"))) && decide (PySem.W.mroIn K (He.ga K C) (.type "object") = some true)))))
theorem excB_ok {C : Str} {K : PySem.W.Frag} (c0 : isi0 K = true) (c : excB C K = true) : ExcC K (He.ga K C) := by
  unfold excB at c
  simp only [Bool.and_eq_true] at c
  obtain ⟨c1, c2, c3, c4, c5, c6⟩ := c
  obtain ⟨a1, a2⟩ := Bool.and_eq_true_iff.mp c0
  exact ⟨He.eqO_ok c1, He.eqO_ok c2, of_decide_eq_true c3, c4, He.eqO_ok c5, He.eqO_ok a1, of_decide_eq_true a2, of_decide_eq_true c6⟩
def kitCV (C : Str) (b : Bool) (K : PySem.W.Frag) : Bool := decide (PySem.W.kitOne K (.ref (He.ga K C)) (.type "ValueError") = some b)
/-- the reading of a test of the error at slot i -/
def tK (i : Nat) (a : Addr) (b : Bool) : TE := fun σ H Q => σ[i]? = some (some (.ref a)) ∧ Q (.bl b) H
section
variable {X : Cx} {T : Tab} {i : Nat} {a : Addr} {b b' : Bool} {x y : Str} {p q1 q2 pos : Pos} {e e' : Expr} {rest : List Expr}
theorem pk_not (h : PE X e (tK i a b)) : PE X (.UnaryOp .Not e pos) (tK i a (!b)) := PE.imp (pe_not h) fun σ H Q ⟨s, q⟩ => ⟨s, b, rfl, q⟩
theorem pk_val (h : PE X e (tK i a b)) (hb : b = b') : PE X e (tK i a b') := hb ▸ h
theorem pk_one {op} (h : PE X e (tK i a b)) : PE X (.BoolOp op [e] pos) (tK i a b) := pe_one h
theorem pk_and (h : PE X e (tK i a b)) (t : PE X (.BoolOp .And (e' :: rest) pos) (tK i a b')) : PE X (.BoolOp .And (e :: e' :: rest) pos) (tK i a (b && b')) := PE.imp (pe_and h t) fun σ H Q ⟨s, q⟩ => by
  refine ⟨s, b, rfl, ?_⟩
  cases b with
  | true => exact iteT ⟨s, q⟩
  | false => exact iteF q
theorem pk_is {oe : Obj} {pn : List (Addr × Obj)} {D : Addr} {v : V} {cv : Value} (C : ExcC X.K D) (hz : Zc (.ref D) none oe) (hf : ∃ vs, oe.data = .fields vs) (hm : X.mg "isinstance" = none) (hcls : PE (X.suite a ((a, oe) :: pn)) (.Name y q2) (tC v)) (hv : ∀ u, RelV v u → u = cv)
    (hk : PySem.W.kitOne X.K (.ref D) cv = some b) (hN : X.N[i]? = some x := by rfl) (hvis : Vis X.env.scope x := by first | exact Or.inl rfl | exact Or.inr (Or.inl rfl) | exact Or.inr (Or.inr rfl)) (hd : (x == ("__debug__" : Str)) = false := by decide) (hcd : (x == ("__classdict__" : Str)) = false := by decide)
    (hg : Gl X "isinstance" := by rfl) (hs : starEach (.Name x q1 :: [.Name y q2]) X.env = (false, eval (.Name x q1) X.env) :: starEach [.Name y q2] X.env := by rfl) (hs2 : starEach (.Name y q2 :: []) X.env = (false, eval (.Name y q2) X.env) :: starEach [] X.env := by rfl)
    (hpl : (backTo pos (starEach [.Name y q2] X.env)).any (·.1) = false := by rfl) : PE (X.suite a ((a, oe) :: pn)) (.Call (.Name "isinstance" p) [.Name x q1, .Name y q2] [] pos) (tK i a b) := by
  have hc : CallR (X.suite a ((a, oe) :: pn)) (.builtin "isinstance") (rIsE X.K D a) := call_isE C hz hf
  refine PE.imp (pe_callB (X := X.suite a ((a, oe) :: pn)) hc hg hm PyProof.Rows.boot_isinstance (pa_cons (pe_var (X := X.suite a ((a, oe) :: pn)) hN hvis hd hcd) (pa_cons hcls pa_nil hs2) hs) (by decide) (by decide) hs hpl) fun σ H Q ⟨s, q⟩ => ?_
  exact ⟨_, s, v, cv, b, rfl, hv, hk, q⟩
theorem names_own {x : Str} {u : Addr} (hm : X.mg x = some (.ref u)) (hg : Gl X x := by rfl) (hdb : (x == ("__debug__" : Str)) = false := by decide) : Names X x (.ref u) := ⟨hg, hdb, .inl hm⟩
theorem setJunk {K : PySem.W.Frag} {T : Tab} {H0 Z H : Hp} {Z0 : Hx} {env : PEnv} {σ : St} (s : SI K T H0 Z0 env σ Z H) (i : Nat) (v : Option V) : SI K T H0 Z0 (env.set i none) (σ.set i v) Z H := by
  have none_at : ∀ (j : Nat), i = j → ∀ c : Cel, (env.set i none)[j]? ≠ some (some c) := fun j e c h => by
    subst e
    by_cases hi : i < env.length
    · rw [List.getElem?_set_self hi] at h; cases h
    · rw [List.getElem?_eq_none (by simpa using hi)] at h; cases h
  have own_at : ∀ (j : Nat), isOwnC ((env.set i none)[j]?) → i ≠ j ∧ isOwnC env[j]? := fun j h => by
    by_cases e : i = j
    · exfalso
      generalize hx : (env.set i none)[j]? = x at h
      match x, h with
      | some (some (.own es)), _ => exact none_at j e _ hx
      | some (some (.mk c es)), _ => exact none_at j e _ hx
    · rw [List.getElem?_set_ne e] at h
      exact ⟨e, h⟩
  refine ⟨s.ext, by simp [s.len], fun m cl hm => ?_, fun m k u hmk a1 a2 a3 a4 => ?_, fun m c ds w hm h' => ?_⟩
  · have ne : i ≠ m := fun e => none_at m e cl hm
    rw [List.getElem?_set_ne ne] at hm
    obtain ⟨u, g1, g2⟩ := s.cell m cl hm
    exact ⟨u, by rw [List.getElem?_set_ne ne]; exact g1, g2⟩
  · obtain ⟨n1, o1⟩ := own_at m a1
    obtain ⟨n2, o2⟩ := own_at k a2
    rw [List.getElem?_set_ne n1] at a3
    rw [List.getElem?_set_ne n2] at a4
    exact s.sep m k u hmk o1 o2 a3 a4
  · have ne : i ≠ m := fun e => none_at m e _ hm
    rw [List.getElem?_set_ne ne] at hm h'
    exact s.me m c ds w hm h'
theorem pd_cat {T : Tab} {W : WX} {a c : Expr} {fa fb : FE} {pos : Pos} (ha : PD X T W a fa) (hb : PD X T W c fb) : PD X T W (.BinOp a .Add c pos) (e2 gCat fa fb) := pd_op op_cat o2_cat ha hb
theorem pd_rep {T : Tab} {W : WX} {a c : Expr} {fa fb : FE} {pos : Pos} (ha : PD X T W a fa) (hb : PD X T W c fb) : PD X T W (.BinOp a .Mult c pos) (e2 gRep fa fb) := pd_op op_rep o2_rep ha hb
/-! ### the rule -/
/-- F; an error of a class that hit catches: its truth value is returned -/
def sTry (i : Nat) (hit res : Nat → Option Bool) (F : FS) : FS := fun ρ => match F ρ with
  | some (.xc c ds ρ') => if ds = [] ∧ i < ρ'.length then (match hit c with
    | some true => match res c with
      | some b => some (.rt (.fro (.bl b)))
      | none => none
    | some false => some (.xc c ds ρ')
    | none => none) else none
  | o => o
end
section
variable {X : Cx} {T : Tab} {W : WX} {i : Nat} {x n : Str} {np rp pos pos' : Pos} {E : Expr} {body : List Stmt} {F : FS} {u : Addr}
theorem pds_tryAs (hit res : Nat → Option Bool) (hs : X.stack = X.env :: X.outer) (hf : X.env.frame = some X.env.locals) (hN : X.N.Nodup) (hi : X.N[i]? = some n) (hln : X.env.kindOf n = some .local) (hc : Names X x (.ref u)) (tk : Takes X W)
    (hb : ∀ (W' : WX) (pn : List (Addr × Obj)) (xe : Value → Shared → Prop), Takes (X.tr pn xe) W' → PassesOwn (model X.prog X.w) X.A X.env xe → PDSs (X.tr pn xe) T W' body F)
    (hh : ∀ c b, hit c = some b → PySem.W.exmOne X.K (.ref (T.ca c)) (.ref u) = some b)
    (hE : ∀ c r, res c = some r → ∀ (a : Addr) (oe : Obj) (pn : List (Addr × Obj)), Zc (.ref (T.ca c)) none oe → (∃ vs, oe.data = .fields vs) → PE (X.suite a ((a, oe) :: pn)) E (tK i a r)) :
    PDS X T W (.Try body [.ExceptHandler (some (.Name x np)) (some n) [.Return (some E) rp] pos'] [] [] pos) (sTry i hit res F) := by
  refine PS.imp (ps_try_as (i := i) (tb := fun W' => tDS X.K T W' F) (ts := fun a cls d D σ H => ∃ c r, cls = .ref (T.ca c) ∧ d = none ∧ res c = some r ∧ σ[i]? = some (some (.ref a)) ∧ D.rt (.bl r) H) hs hf hN hi hln hc tk (fun W' pn xe t po => hb W' pn xe t po) fun a oe cls d pn hz hd => ?_) fun D σ H ⟨H0, Z0, env, Z, out, h, s, po⟩ => ?_
  · refine ⟨fun pins s σ H D I hh => ?_⟩
    obtain ⟨c, r, rfl, rfl, hr, hσ, q⟩ := hh
    exact (pss_one (ps_ret (hE c r hr a oe pn hz hd))).run pins s σ H D I ⟨hσ, q⟩
  · unfold sTry at h
    cases hF : F env with
    | none => rw [hF] at h; cases h
    | some o =>
      rw [hF] at h
      cases o with
      | nx ρ' => cases h; exact ⟨H0, Z0, env, Z, _, hF, s, po.nx, fun r q => (nomatch q), fun r q => (nomatch q), fun r q => (nomatch q), fun c ds r q => (nomatch q)⟩
      | rt r => cases h; exact ⟨H0, Z0, env, Z, _, hF, s, fun r q => (nomatch q), po.rt, fun r q => (nomatch q), fun r q => (nomatch q), fun c ds r q => (nomatch q)⟩
      | bk ρ' => cases h; exact ⟨H0, Z0, env, Z, _, hF, s, fun r q => (nomatch q), fun r q => (nomatch q), po.bk, fun r q => (nomatch q), fun c ds r q => (nomatch q)⟩
      | ct ρ' => cases h; exact ⟨H0, Z0, env, Z, _, hF, s, fun r q => (nomatch q), fun r q => (nomatch q), fun r q => (nomatch q), po.ct, fun c ds r q => (nomatch q)⟩
      | xc c ds ρ' =>
        refine ⟨H0, Z0, env, Z, _, hF, s, fun r q => (nomatch q), fun r q => (nomatch q), fun r q => (nomatch q), fun r q => (nomatch q), fun c' ds' env' q cls d σ' Z' H' s' xr => ?_⟩
        cases q
        dsimp only at h
        split at h
        · rename_i hds
          obtain ⟨hds, hil⟩ := hds
          subst hds
          obtain ⟨rfl, hx⟩ := xr
          obtain ⟨_, rfl⟩ | ⟨_, _, _, _, z, _⟩ := hx
          · split at h
            · rename_i ht
              split at h
              · rename_i r hr
                cases h
                refine ⟨true, hh _ _ ht, fun _ a na => ?_, fun z => (nomatch z)⟩
                have hlen : i < σ'.length := by rw [← s'.len]; exact hil
                exact ⟨c, r, rfl, rfl, hr, by rw [List.getElem?_set_self hlen], po.rt _ rfl _ Z' H' s'.ext (by simp only [RRep, Rep])⟩
              · cases h
            · rename_i ht
              cases h
              exact ⟨false, hh _ _ ht, fun z => (nomatch z), fun _ => po.xc _ _ _ rfl _ _ σ' Z' H' s' ⟨rfl, .inl ⟨rfl, rfl⟩⟩⟩
            · cases h
          · cases z
        · cases h
end
end Pd

set_option maxHeartbeats 2000000
/-! PdM: running the plain functions. -/
namespace Pd
open PySem PySem.Spec L2
/-! ### steps -/
section
variable (ρ : PEnv) (d : Dt) (i j : Int) (a b : Bool) (f g h : FE) (F H : FS) (ds : List Dt) (n : Nat)
@[simp] theorem eC_eq : eC d ρ = some (.ok (.fro d)) := rfl
theorem eVar_fro (h : ρ[n]? = some (some (.fro d))) : eVar n ρ = some (.ok (.fro d)) := by unfold eVar; rw [h]
theorem eVar_own (h : ρ[n]? = some (some (.own ds))) : eVar n ρ = some (.ok (.bor ds)) := by unfold eVar; rw [h]
@[simp] theorem e2_eq (gg : G2) : e2 gg f g ρ = bnd (f ρ) fun x => bnd (g ρ) fun y => gg x y := rfl
@[simp] theorem e1_eq (gg : G1) : e1 gg f ρ = bnd (f ρ) gg := rfl
@[simp] theorem gAdd_eq : gAdd (.fro (.int i)) (.fro (.int j)) = vI (i + j) := rfl
@[simp] theorem gSub_eq : gSub (.fro (.int i)) (.fro (.int j)) = vI (i - j) := rfl
theorem gMul_eq : gMul (.fro (.int i)) (.fro (.int j)) = if mulOk i j then vI (i * j) else none := rfl
theorem gDiv_eq : gDiv (.fro (.int i)) (.fro (.int j)) = if divOk i j then vI (i.fdiv j) else none := rfl
theorem gMod_eq : gMod (.fro (.int i)) (.fro (.int j)) = if modOk i j then vI (i.fmod j) else none := rfl
theorem gPow_eq : gPow (.fro (.int i)) (.fro (.int j)) = if powOk i j then vI (i ^ j.toNat) else none := rfl
@[simp] theorem gLt_eq : gLt (.fro (.int i)) (.fro (.int j)) = vB (decide (i < j)) := rfl
@[simp] theorem gLe_eq : gLe (.fro (.int i)) (.fro (.int j)) = vB (decide (i ≤ j)) := rfl
@[simp] theorem gGt_eq : gGt (.fro (.int i)) (.fro (.int j)) = vB (decide (j < i)) := rfl
@[simp] theorem gGe_eq : gGe (.fro (.int i)) (.fro (.int j)) = vB (decide (j ≤ i)) := rfl
@[simp] theorem gNeg_eq : gNeg (.fro (.int i)) = vI (-i) := rfl
@[simp] theorem gMin_eq : gMin (.fro (.int i)) (.fro (.int j)) = vI (if j < i then j else i) := rfl
@[simp] theorem gMax_eq : gMax (.fro (.int i)) (.fro (.int j)) = vI (if i < j then j else i) := rfl
@[simp] theorem asI_eq : asI (.fro (.int i)) = some (.ok i) := rfl
@[simp] theorem asB_eq : asB (.fro (.bl a)) = some (.ok a) := rfl
@[simp] theorem tru_bl : tru (.fro (.bl a)) = some (.ok a) := rfl
@[simp] theorem tB_eq : tB f ρ = bnd (f ρ) asB := rfl
@[simp] theorem tTru_eq : tTru f ρ = bnd (f ρ) tru := rfl
@[simp] theorem tNot_eq (t : FT) : tNot t ρ = bnd (t ρ) fun b => some (.ok (!b)) := rfl
@[simp] theorem tAnd_eq (t u : FT) : tAnd t u ρ = bnd (t ρ) fun b => if b then u ρ else some (.ok false) := rfl
@[simp] theorem tOr_eq (t u : FT) : tOr t u ρ = bnd (t ρ) fun b => if b then some (.ok true) else u ρ := rfl
@[simp] theorem eAnd_eq : eAnd f g ρ = bnd (f ρ) fun r => bnd (asB r) fun b => if b then g ρ else vB false := rfl
@[simp] theorem eOr_eq : eOr f g ρ = bnd (f ρ) fun r => bnd (asB r) fun b => if b then vB true else g ρ := rfl
@[simp] theorem eNot_eq : eNot f ρ = bnd (f ρ) fun r => bnd (asB r) fun b => vB (!b) := rfl
@[simp] theorem eIf_eq (t : FT) : eIf t f g ρ = bnd (t ρ) fun b => if b then f ρ else g ρ := rfl
@[simp] theorem eChain_eq (gg gg' : G2) : eChain gg gg' f g h ρ = bnd (f ρ) fun x => bnd (g ρ) fun y => bnd (gg x y) fun z => bnd (asB z) fun b => if b then bnd (h ρ) fun w => gg' y w else vB false := rfl
@[simp] theorem sSet_eq : sSet n f ρ = bndS ρ (f ρ) fun r => match celOf r with | some c => some (.nx (ρ.set n (some c))) | none => none := rfl
@[simp] theorem celOf_fro : celOf (.fro d) = some (.fro d) := rfl
@[simp] theorem celOf_own : celOf (.own ds) = some (.own ds) := rfl
@[simp] theorem sNext_eq : sNext ρ = some (.nx ρ) := rfl
@[simp] theorem sIf_eq (t : FT) : sIf t F H ρ = bndS ρ (t ρ) fun b => if b then F ρ else H ρ := rfl
@[simp] theorem sExpr_eq : sExpr f ρ = bndS ρ (f ρ) fun _ => some (.nx ρ) := rfl
@[simp] theorem aNil_eq : aNil ρ = some (.ok []) := rfl
@[simp] theorem aCons_eq (fs : FA) : aCons f fs ρ = bnd (f ρ) fun r => bnd (frz r) fun d => bnd (fs ρ) fun ds => some (.ok (d :: ds)) := rfl
@[simp] theorem eLst_eq (fs : FA) : eLst fs ρ = bnd (fs ρ) fun ds => if ds.length ≤ LINE then some (.ok (.own ds)) else none := rfl
@[simp] theorem eTup_eq (fs : FA) : eTup fs ρ = bnd (fs ρ) fun ds => if ds.length ≤ LINE then some (.ok (.fro (.tup ds))) else none := rfl
theorem iRng1_eq : iRng1 f ρ = bnd (f ρ) fun r => bnd (asI r) fun n => if rOk n then some (.ok (intsFrom 0 n.toNat)) else none := rfl
theorem iRng2_eq : iRng2 f g ρ = bnd (f ρ) fun r => bnd (g ρ) fun q => bnd (asI r) fun a => bnd (asI q) fun b => if rOk a && rOk b then some (.ok (intsFrom a (b - a).toNat)) else none := rfl
theorem iRngD_eq : iRngD f g ρ = bnd (f ρ) fun r => bnd (g ρ) fun q => bnd (asI r) fun a => bnd (asI q) fun b => if rOk a && rOk b then some (.ok (intsBy a (-1) (a - b).toNat)) else none := rfl
@[simp] theorem sFor_eq (it : FIt) (gt : GT) : sFor it gt F ρ = bndS ρ (it ρ) fun ds => forD gt F ds ρ := rfl
@[simp] theorem gtName_eq : gtName n d ρ = some (ρ.set n (some (.fro d))) := rfl
@[simp] theorem eCa_eq (fn : Fn) (fa : FA) : eCa n fn fa ρ = bnd (fa ρ) fun ds => if ds.length = n then fn ds else none := by
  unfold eCa eCall
  cases fa ρ with
  | none => rfl
  | some x =>
    cases x with
    | ex c es => rfl
    | ok ds =>
      show (if ds.length = n ∧ ([] : List Dt).length = 0 then fn ds else none) = (if ds.length = n then fn ds else none)
      simp
theorem eCa_run {fn : Fn} {fa : FA} {ρ : PEnv} {ds : List Dt} {n : Nat} (h : fa ρ = some (.ok ds)) (hl : ds.length = n := by rfl) : eCa n fn fa ρ = fn ds := by
  rw [eCa_eq, h, bnd_ok, if_pos hl]
@[simp] theorem gEqS_int : gEqS (.fro (.int i)) (.fro (.int j)) = vB (decide (i = j)) := by
  unfold gEqS sclD
  simp
@[simp] theorem gNeS_int : gNeS (.fro (.int i)) (.fro (.int j)) = vB (!decide (i = j)) := by
  unfold gNeS sclD
  simp
/-- one statement, then the next -/
theorem sSeq_nx {ρ ρ' : PEnv} {F H : FS} (h : F ρ = some (.nx ρ')) : sSeq F H ρ = H ρ' := by unfold sSeq; rw [h]
theorem sSeq_rt {ρ : PEnv} {F H : FS} {r : Rs} (h : F ρ = some (.rt r)) : sSeq F H ρ = some (.rt r) := by unfold sSeq; rw [h]
theorem sSeq_xc {ρ ρ' : PEnv} {F H : FS} {c : Nat} {es : List Dt} (h : F ρ = some (.xc c es ρ')) : sSeq F H ρ = some (.xc c es ρ') := by unfold sSeq; rw [h]
end
theorem p18 : (10 : Int) ^ 18 = 1000000000000000000 := by decide +kernel
@[simp] theorem gPow_18 : gPow (.fro (.int 10)) (.fro (.int 18)) = vI 1000000000000000000 := by
  rw [gPow_eq, if_pos (by decide), show (18 : Int).toNat = 18 from rfl, p18]
theorem rng1_run {f : FE} {ρ : PEnv} {n : Int} (h : f ρ = some (.ok (.fro (.int n)))) (hr : rOk n = true) : iRng1 f ρ = some (.ok (intsFrom 0 n.toNat)) := by
  unfold iRng1
  rw [h, bnd_ok, asI_eq, bnd_ok, hr]
  rfl
theorem rng2_run {f g : FE} {ρ : PEnv} {m n : Int} (h : f ρ = some (.ok (.fro (.int m)))) (h' : g ρ = some (.ok (.fro (.int n)))) (hm : rOk m = true) (hn : rOk n = true) : iRng2 f g ρ = some (.ok (intsFrom m (n - m).toNat)) := by
  unfold iRng2
  rw [h, bnd_ok, h', bnd_ok, asI_eq, bnd_ok, asI_eq, bnd_ok, hm, hn]
  rfl
theorem rngD_run {f g : FE} {ρ : PEnv} {m n : Int} (h : f ρ = some (.ok (.fro (.int m)))) (h' : g ρ = some (.ok (.fro (.int n)))) (hm : rOk m = true) (hn : rOk n = true) : iRngD f g ρ = some (.ok (intsBy m (-1) (m - n).toNat)) := by
  unfold iRngD
  rw [h, bnd_ok, h', bnd_ok, asI_eq, bnd_ok, asI_eq, bnd_ok, hm, hn]
  rfl
theorem for_run {it : FIt} {gt : GT} {F : FS} {ρ : PEnv} {ds : List Dt} (h : it ρ = some (.ok ds)) : sFor it gt F ρ = forD gt F ds ρ := by
  unfold sFor
  rw [h, bndS_ok]
/-! ### loops -/
theorem for_nx {gt : GT} {body : FS} (I : Nat → PEnv → Prop) : ∀ {ds : List Dt} {ρ : PEnv} (m : Nat), I m ρ →
    (∀ i ρ d, ds[i]? = some d → I (m + i) ρ → ∃ ρ1 ρ2, gt d ρ = some ρ1 ∧ (body ρ1 = some (.nx ρ2) ∨ body ρ1 = some (.ct ρ2)) ∧ I (m + i + 1) ρ2) → ∃ ρ', forD gt body ds ρ = some (.nx ρ') ∧ I (m + ds.length) ρ'
  | [], ρ, m, h0, _ => ⟨ρ, rfl, h0⟩
  | d :: ds, ρ, m, h0, st => by
    obtain ⟨ρ1, ρ2, e1, e2, h2⟩ := st 0 ρ d rfl h0
    obtain ⟨ρ', e3, h3⟩ := for_nx I (ds := ds) (ρ := ρ2) (m + 1) h2 (fun i ρ d hd hI => by
      have := st (i + 1) ρ d (by simpa using hd) (by rwa [show m + (i + 1) = m + 1 + i by omega])
      rwa [show m + (i + 1) + 1 = m + 1 + i + 1 by omega] at this)
    refine ⟨ρ', ?_, by rw [List.length_cons, show m + (ds.length + 1) = m + 1 + ds.length by omega]; exact h3⟩
    unfold forD
    rw [e1]
    rcases e2 with e2 | e2 <;> simp only [e2] <;> exact e3
/-- a loop over a range -/
theorem for_rng {v : Nat} {body : FS} {a : Int} {n : Nat} {ρ : PEnv} (I : Nat → PEnv → Prop) (h0 : I 0 ρ)
    (st : ∀ i ρ, i < n → I i ρ → ∃ ρ2, (body (ρ.set v (some (.fro (.int (a + i))))) = some (.nx ρ2) ∨ body (ρ.set v (some (.fro (.int (a + i))))) = some (.ct ρ2)) ∧ I (i + 1) ρ2) :
    ∃ ρ', forD (gtName v) body (intsFrom a n) ρ = some (.nx ρ') ∧ I n ρ' := by
  obtain ⟨ρ', e, h⟩ := for_nx (gt := gtName v) (body := body) I (ds := intsFrom a n) (ρ := ρ) 0 h0 fun i ρ d hd hI => by
    obtain ⟨hi, rfl⟩ := intsFrom_get a n i hd
    rw [Nat.zero_add] at hI ⊢
    obtain ⟨ρ2, e, h⟩ := st i ρ hi hI
    exact ⟨_, ρ2, rfl, e, h⟩
  rw [intsFrom_length, Nat.zero_add] at h
  exact ⟨ρ', e, h⟩
/-! ### numbers -/
theorem log2_lt {x a : Nat} (h : x < 2 ^ a) (ha : 0 < a) : x.log2 < a := by
  by_cases z : x = 0
  · subst z; simpa using ha
  · exact (Nat.log2_lt z).mpr h
theorem mulOk_of {i j : Int} (a b : Nat) (h1 : i.natAbs < 2 ^ a) (h2 : j.natAbs < 2 ^ b) (h : a + b ≤ 100000000 := by decide) (ha : 0 < a := by decide) (hb : 0 < b := by decide) : mulOk i j = true := by
  unfold mulOk
  have := log2_lt h1 ha
  have := log2_lt h2 hb
  exact decide_eq_true (by omega)
theorem divOk_of {i j : Int} (h0 : 0 < j) (h : j < 2 ^ 64) : divOk i j = true := by
  unfold divOk
  have h1 : j.natAbs < 2 ^ 64 := by omega
  have := log2_lt h1 (by decide)
  simp only [Bool.and_eq_true, decide_eq_true_eq]
  exact ⟨by omega, by omega⟩
theorem modOk_of {i j : Int} (h0 : j ≠ 0) : modOk i j = true := decide_eq_true h0
theorem rOk_of {i : Int} (h1 : -1000000000000000000 ≤ i) (h2 : i ≤ 1000000000000000000) : rOk i = true := by
  unfold rOk
  simp only [Bool.and_eq_true, decide_eq_true_eq]
  constructor <;> omega
theorem fmod_pos {i j : Int} (h : 0 < j) : 0 ≤ i.fmod j ∧ i.fmod j < j := ⟨Int.fmod_nonneg_of_pos i h, Int.fmod_lt_of_pos i h⟩
theorem bits_lt {z : Int} {n : Nat} (h : Builtin.Int.intBits z ≤ n) : z.natAbs < 2 ^ n := by
  unfold Builtin.Int.intBits at h
  split at h
  · rename_i e
    have : z = 0 := by simpa using e
    subst this
    exact Nat.pow_pos (by decide)
  · have : z.natAbs ≠ 0 := by
      rename_i e
      intro q
      have : z = 0 := by omega
      subst this
      simp at e
    exact (Nat.log2_lt this).mp (by omega)
@[simp] theorem gIx_bor {ds : List Dt} {i : Int} : gIx (.bor ds) (.fro (.int i)) = (match atI ds i with | some d => some (.ok (.fro d)) | none => none) := rfl
@[simp] theorem gIx_lst {ds : List Dt} {i : Int} : gIx (.fro (.lst ds)) (.fro (.int i)) = (match atI ds i with | some d => some (.ok (.fro d)) | none => none) := rfl
@[simp] theorem gIx_tup {ds : List Dt} {i : Int} : gIx (.fro (.tup ds)) (.fro (.int i)) = (match atI ds i with | some d => some (.ok (.fro d)) | none => none) := rfl
theorem atI_nat {ds : List Dt} {i : Int} {d : Dt} (h0 : 0 ≤ i) (h : ds[i.toNat]? = some d) : atI ds i = some d := by
  unfold atI ixN
  have hl : i.toNat < ds.length := (List.getElem?_eq_some_iff.mp h).1
  rw [if_pos h0, if_pos (by omega)]
  exact h
@[simp] theorem gLen_bor {ds : List Dt} : gLen (.bor ds) = vI ds.length := rfl
@[simp] theorem gLen_own {ds : List Dt} : gLen (.own ds) = vI ds.length := rfl
@[simp] theorem gLen_lst {ds : List Dt} : gLen (.fro (.lst ds)) = vI ds.length := rfl
@[simp] theorem gLen_tup {ds : List Dt} : gLen (.fro (.tup ds)) = vI ds.length := rfl
end Pd

set_option maxHeartbeats 2000000
/-! PdN: the drawn numbers. -/
namespace Pd
open PySem PySem.Spec L2
theorem sApp_eq {i : Nat} {f : FE} {ρ : PEnv} {ds : List Dt} {d : Dt} (h : ρ[i]? = some (some (.own ds))) (hf : f ρ = some (.ok (.fro d))) (hl : ds.length < LINE) : sApp i f ρ = some (.nx (ρ.set i (some (.own (ds ++ [d]))))) := by
  unfold sApp
  rw [h]
  simp only [hf, bndS_ok, frz_fro, hl, if_true]
theorem fnD_run {np nl : Nat} {F : FS} {args : List Dt} (h : args.length = np) : fnD np nl F args = outR (F (args.map (fun d => some (.fro d)) ++ List.replicate nl none)) := if_pos h
theorem asL_lst {ds : List Dt} : asL (.fro (.lst ds)) = some ds := rfl
noncomputable def b_numsB : FS :=
  sIf (tAnd (tTru (eVar 3)) (tB (e2 gGt (eVar 2) (eC (.int 0)))))
  (sSeq (sApp 4 (e2 gMod (eVar 2) (eC (.int 1000000))))
  (sSet 2 (e2 gDiv (eVar 2) (eC (.int 1000000)))))
  (sSeq (sSet 6 (eC (.int 13)))
  (sSeq (sIf (tB (e2 gGt (e1 gLen (eVar 0)) (eC (.int 0))))
  (sSet 6 (e2 gAdd (e2 gIx (eVar 0) (e2 gMod (eVar 5) (e1 gLen (eVar 0)))) (e2 gMul (eC (.int 7919)) (eVar 5))))
  sNext)
  (sApp 4 (e2 gMod (e2 gMod (e2 gMul (e2 gMod (e2 gMul (eVar 6) (eC (.int 48271))) (eC (.int 2147483647))) (eC (.int 69621))) (eC (.int 2147483629))) (eC (.int 1000000))))))
noncomputable def b_nums : FS :=
  sSeq (sSet 2 (eC (.int 0)))
  (sSeq (sIf (tB (e2 gGt (e1 gLen (eVar 0)) (eC (.int 0))))
  (sSet 2 (e2 gIx (eVar 0) (eC (.int 0))))
  sNext)
  (sSeq (sSet 3 (e2 gGe (eVar 2) (e2 gPow (eC (.int 10)) (eC (.int 18)))))
  (sSeq (sSet 4 (eLst aNil))
  (sSeq (sFor (iRng1 (eVar 1)) (gtName 5)
  b_numsB)
  (sRetV 4)))))
abbrev cI (i : Int) : Option Cel := some (.fro (.int i))
abbrev cB (b : Bool) : Option Cel := some (.fro (.bl b))
abbrev cD (d : Dt) : Option Cel := some (.fro d)
abbrev cO (ds : List Dt) : Option Cel := some (.own ds)
theorem div6 (i : Int) : divOk i 1000000 = true := divOk_of (by decide) (by decide)
theorem modOk6 (i : Int) : modOk i 1000000 = true := modOk_of (by decide)
theorem modOk47 (i : Int) : modOk i 2147483647 = true := modOk_of (by decide)
theorem modOk29 (i : Int) : modOk i 2147483629 = true := modOk_of (by decide)
theorem natAbs_add_lt {n : Nat} {x y : Int} (h1 : x.natAbs < 2 ^ n) (h2 : y.natAbs < 2 ^ n) : (x + y).natAbs < 2 ^ (n + 1) := by
  rw [Nat.pow_succ]
  generalize (2 : Nat) ^ n = A at *
  omega
theorem pow_lt_mono {x m n : Nat} (h : x < 2 ^ m) (hn : m ≤ n) : x < 2 ^ n := Nat.lt_of_lt_of_le h (Nat.pow_le_pow_right (by decide) hn)
theorem mul_small {z c : Int} {n : Nat} (h : z.natAbs < 2 ^ n) (hc : c.natAbs < 2 ^ 20) (hn0 : 0 < n) (hn : n ≤ 90000000) : mulOk z c = true := mulOk_of n 20 h hc (by omega) hn0
theorem cell_okN {n : Nat} (hn1 : 30 ≤ n) (hn2 : n ≤ 80000000) {ns : List Int} (hb : ∀ z ∈ ns, Builtin.Int.intBits z ≤ n) {a : Int} (ha : a ∈ ns) {i : Nat} (hi : i ≤ 1000) : mulOk (a + 7919 * (i : Int)) 48271 = true :=
  mul_small (n := n + 1) (natAbs_add_lt (bits_lt (hb a ha)) (pow_lt_mono (m := 30) (by omega) hn1)) (by decide) (by omega) (by omega)
theorem cell_ok {ns : List Int} (hb : ∀ z ∈ ns, Builtin.Int.intBits z ≤ 1048576) {a : Int} (ha : a ∈ ns) {i : Nat} (hi : i ≤ 1000) : mulOk (a + 7919 * (i : Int)) 48271 = true :=
  cell_okN (n := 1048576) (by omega) (by omega) hb ha hi
theorem nums_run {ns : List Int} (hl : ns.length ≤ 63) (hb : ∀ z ∈ ns, Builtin.Int.intBits z ≤ 1048576) (n : Nat) (hn : n ≤ 1000) :
    ∃ xs : List Int, xs.length = n ∧ (∀ x ∈ xs, 0 ≤ x ∧ x < 1000000) ∧ fnD 2 5 b_nums [.lst (ns.map Dt.int), .int n] = some (.ok (.own (xs.map Dt.int))) := by
  -- the loop
  have loop : ∀ (rest : Int) (byd : Bool), ∃ (xs : List Int), xs.length = n ∧ (∀ x ∈ xs, 0 ≤ x ∧ x < 1000000) ∧ ∃ (r' : Int) (v5 v6 : Option Cel), forD (gtName 5)
      b_numsB
      (intsFrom 0 n) [cD (.lst (ns.map Dt.int)), cI n, cI rest, cB byd, cO [], none, none] = some (.nx [cD (.lst (ns.map Dt.int)), cI n, cI r', cB byd, cO (xs.map Dt.int), v5, v6]) := by
    intro rest byd
    obtain ⟨ρ', e, xs, h1, h2, r', v5, v6, rfl⟩ := for_rng (v := 5) (body := b_numsB) (a := 0) (n := n) (ρ := [cD (.lst (ns.map Dt.int)), cI n, cI rest, cB byd, cO [], none, none])
      (fun i ρ => ∃ xs : List Int, xs.length = i ∧ (∀ x ∈ xs, 0 ≤ x ∧ x < 1000000) ∧ ∃ (r' : Int) (v5 v6 : Option Cel), ρ = [cD (.lst (ns.map Dt.int)), cI n, cI r', cB byd, cO (xs.map Dt.int), v5, v6])
      ⟨[], rfl, fun x hx => (nomatch hx), rest, none, none, rfl⟩ (fun i ρ hi ⟨xs, h1, h2, r', v5, v6, e⟩ => by
        subst e
        have app : ∀ (z : Int), 0 ≤ z → z < 1000000 → ∀ x ∈ xs ++ [z], 0 ≤ x ∧ x < 1000000 := fun z z0 z1 x hx => by
          rcases List.mem_append.mp hx with h | h
          · exact h2 x h
          · rw [List.mem_singleton.mp h]; exact ⟨z0, z1⟩
        have hlen : (xs.map Dt.int).length < LINE := by
          rw [List.length_map, h1]
          have : LINE = 16777216 := rfl
          omega
        have mz := fun z : Int => fmod_pos (i := z) (j := 1000000) (by decide)
        by_cases hc : byd = true ∧ 0 < r'
        · -- by digits
          refine ⟨[cD (.lst (ns.map Dt.int)), cI n, cI (r'.fdiv 1000000), cB byd, cO ((xs ++ [r'.fmod 1000000]).map Dt.int), cI (0 + i), v6], .inl ?_, _, by simp [h1], app _ (mz _).1 (mz _).2, _, _, _, rfl⟩
          show sIf _ _ _ [cD (.lst (ns.map Dt.int)), cI n, cI r', cB byd, cO (xs.map Dt.int), cI (0 + i), v6] = _
          rw [sIf_eq]
          simp only [tAnd_eq, tTru_eq, tB_eq, e2_eq]
          simp [gMul_eq, gDiv_eq, gMod_eq, eVar, hc.1, hc.2]
          rw [sSeq_nx (sApp_eq (ds := xs.map Dt.int) (d := .int (r'.fmod 1000000)) rfl (by simp [gMul_eq, gDiv_eq, gMod_eq, eVar, modOk6]) hlen)]
          simp [gMul_eq, gDiv_eq, gMod_eq, eVar, div6]
        · have ht : (sIf (tAnd (tTru (eVar 3)) (tB (e2 gGt (eVar 2) (eC (.int 0))))) : FS → FS → FS) = sIf (tAnd (tTru (eVar 3)) (tB (e2 gGt (eVar 2) (eC (.int 0))))) := rfl
          have cell : ∃ z : Int, mulOk z 48271 = true ∧ sSeq (sSet 6 (eC (.int 13))) (sIf (tB (e2 gGt (e1 gLen (eVar 0)) (eC (.int 0))))
              (sSet 6 (e2 gAdd (e2 gIx (eVar 0) (e2 gMod (eVar 5) (e1 gLen (eVar 0)))) (e2 gMul (eC (.int 7919)) (eVar 5)))) sNext) [cD (.lst (ns.map Dt.int)), cI n, cI r', cB byd, cO (xs.map Dt.int), cI (0 + i), v6] = some (.nx [cD (.lst (ns.map Dt.int)), cI n, cI r', cB byd, cO (xs.map Dt.int), cI (0 + i), cI z]) := by
            by_cases hz : ns = []
            · subst hz
              refine ⟨13, mulOk_of 10 20 (by decide) (by decide), by rw [sSeq_nx (ρ' := [cD (.lst []), cI n, cI r', cB byd, cO (xs.map Dt.int), cI (0 + i), cI 13]) (by simp)]; simp [gMul_eq, gDiv_eq, gMod_eq, eVar]⟩
            · have hp : 0 < ns.length := List.length_pos_iff.mpr hz
              have hp' : (0 : Int) < ns.length := by omega
              obtain ⟨m0, m1⟩ := fmod_pos (i := (i : Int)) (j := ns.length) hp'
              have hk : ((i : Int).fmod ns.length).toNat < ns.length := by omega
              refine ⟨ns[((i : Int).fmod ns.length).toNat] + 7919 * i, ?_, ?_⟩
              · exact cell_ok hb (List.getElem_mem hk) (by omega)
              · rw [sSeq_nx (ρ' := [cD (.lst (ns.map Dt.int)), cI n, cI r', cB byd, cO (xs.map Dt.int), cI (0 + i), cI 13]) (by simp)]
                have e1 : modOk (i : Int) ns.length = true := modOk_of (by omega)
                have e2 : mulOk 7919 (i : Int) = true := mulOk_of 30 30 (by decide) (by omega)
                have e3 : atI (ns.map Dt.int) ((i : Int).fmod ns.length) = some (.int ns[((i : Int).fmod ns.length).toNat]) := atI_nat m0 (by simp [hk])
                simp [gMul_eq, gDiv_eq, gMod_eq, eVar, hp, e1, e2, e3]
          obtain ⟨z, hz, ez⟩ := cell
          have k1 : mulOk z 48271 = true := hz
          have g1 := fmod_pos (i := z * 48271) (j := 2147483647) (by decide)
          have k2 : mulOk ((z * 48271).fmod 2147483647) 69621 = true := mulOk_of 40 20 (by omega) (by decide)
          refine ⟨[cD (.lst (ns.map Dt.int)), cI n, cI r', cB byd, cO ((xs ++ [(((z * 48271).fmod 2147483647 * 69621).fmod 2147483629).fmod 1000000]).map Dt.int), cI (0 + i), cI z], .inl ?_, _, by simp [h1], app _ (mz _).1 (mz _).2, _, _, _, rfl⟩
          have hcond : (byd && decide (0 < r')) = false := by
            cases byd with
            | false => rfl
            | true => simp only [Bool.true_and, decide_eq_false_iff_not]; exact fun q => hc ⟨rfl, q⟩
          have hcv : tAnd (tTru (eVar 3)) (tB (e2 gGt (eVar 2) (eC (.int 0)))) [cD (.lst (ns.map Dt.int)), cI n, cI r', cB byd, cO (xs.map Dt.int), cI (0 + i), v6] = some (.ok false) := by
            cases byd with
            | false => simp [gMul_eq, gDiv_eq, gMod_eq, eVar]
            | true =>
              have : decide (0 < r') = false := by simpa using hcond
              simp [gMul_eq, gDiv_eq, gMod_eq, eVar, this]
          show sIf _ _ _ [cD (.lst (ns.map Dt.int)), cI n, cI r', cB byd, cO (xs.map Dt.int), cI (0 + i), v6] = _
          rw [sIf_eq, hcv, bndS_ok, if_neg (by decide)]
          have assoc : ∀ (F G H : FS) (ρ ρ' : PEnv), sSeq F G ρ = some (.nx ρ') → sSeq F (sSeq G H) ρ = H ρ' := fun F G H ρ ρ' h => by
            unfold sSeq at h ⊢
            cases hF : F ρ with
            | none => rw [hF] at h; cases h
            | some o =>
              rw [hF] at h
              cases o <;> first | (cases h; done) | (simp only at h ⊢; rw [h])
          rw [assoc _ _ _ _ _ ez]
          rw [sApp_eq (ds := xs.map Dt.int) (d := .int ((((z * 48271).fmod 2147483647 * 69621).fmod 2147483629).fmod 1000000)) rfl (by simp [gMul_eq, gDiv_eq, gMod_eq, eVar, k1, k2, modOk6, modOk47, modOk29]) hlen]
          simp)
    exact ⟨xs, h1, h2, r', v5, v6, e⟩
  have hn1 : rOk (n : Int) = true := rOk_of (by omega) (by omega)
  have rest : ∃ r : Int, sIf (tB (e2 gGt (e1 gLen (eVar 0)) (eC (.int 0)))) (sSet 2 (e2 gIx (eVar 0) (eC (.int 0)))) sNext [cD (.lst (ns.map Dt.int)), cI n, cI 0, none, none, none, none] = some (.nx [cD (.lst (ns.map Dt.int)), cI n, cI r, none, none, none, none]) := by
    cases ns with
    | nil => exact ⟨0, by simp [gMul_eq, gDiv_eq, gMod_eq, eVar]⟩
    | cons z zs =>
      refine ⟨z, ?_⟩
      have e3 : atI (Dt.int z :: zs.map Dt.int) 0 = some (.int z) := atI_nat (by decide) rfl
      have e4 : (0 : Int) < zs.length + 1 := by omega
      simp [gMul_eq, gDiv_eq, gMod_eq, eVar, e3, e4]
  obtain ⟨r, er⟩ := rest
  have eb : ∃ b : Bool, sSet 3 (e2 gGe (eVar 2) (e2 gPow (eC (.int 10)) (eC (.int 18)))) [cD (.lst (ns.map Dt.int)), cI n, cI r, none, none, none, none] = some (.nx [cD (.lst (ns.map Dt.int)), cI n, cI r, cB b, none, none, none]) := ⟨decide ((1000000000000000000 : Int) ≤ r), by simp [gMul_eq, gDiv_eq, gMod_eq, eVar]⟩
  obtain ⟨byd, eb⟩ := eb
  obtain ⟨xs, h1, h2, r', v5, v6, eL⟩ := loop r byd
  refine ⟨xs, h1, h2, ?_⟩
  rw [fnD_run (np := 2) rfl]
  unfold b_nums
  show outR (sSeq _ _ [cD (.lst (ns.map Dt.int)), cI n, none, none, none, none, none]) = _
  rw [sSeq_nx (ρ' := [cD (.lst (ns.map Dt.int)), cI n, cI 0, none, none, none, none]) (by simp), sSeq_nx er,
    sSeq_nx eb,
    sSeq_nx (ρ' := [cD (.lst (ns.map Dt.int)), cI n, cI r, cB byd, cO [], none, none]) (by simp),
    sSeq_nx (ρ' := [cD (.lst (ns.map Dt.int)), cI n, cI r', cB byd, cO (xs.map Dt.int), v5, v6]) (by
      rw [for_run (rng1_run (n := (n : Int)) (by simp [gMul_eq, gDiv_eq, gMod_eq, eVar]) hn1), Int.toNat_natCast]
      exact eL)]
  rfl
end Pd

set_option maxHeartbeats 2000000
/-! PdQ: sizes by instances, runs by simp. -/
namespace Pd
open PySem PySem.Spec L2
/-! ### sizes -/
class Sm (x : Int) (n : outParam Nat) : Prop where
  lt : x.natAbs < 2 ^ n
  pos : 0 < n
theorem Sm.of {x : Int} {n : Nat} (h : x.natAbs < 2 ^ n) (p : 0 < n) : Sm x n := ⟨h, p⟩
instance Sm.mul {x y : Int} {a b : Nat} [h : Sm x a] [k : Sm y b] : Sm (x * y) (a + b) := ⟨by
  rw [Int.natAbs_mul, Nat.pow_add]
  exact Nat.mul_lt_mul'' h.lt k.lt, Nat.add_pos_left h.pos b⟩
theorem pow_max {A B : Nat} (a b : Nat) (hA : A < 2 ^ a) (hB : B < 2 ^ b) : A + B < 2 ^ (a + b + 1) := by
  have h1 : 2 ^ a ≤ 2 ^ (a + b) := Nat.pow_le_pow_right (by decide) (by omega)
  have h2 : 2 ^ b ≤ 2 ^ (a + b) := Nat.pow_le_pow_right (by decide) (by omega)
  rw [Nat.pow_succ]
  generalize 2 ^ (a + b) = C at *
  omega
instance Sm.add {x y : Int} {a b : Nat} [h : Sm x a] [k : Sm y b] : Sm (x + y) (a + b + 1) := ⟨Nat.lt_of_le_of_lt (Int.natAbs_add_le x y) (pow_max a b h.lt k.lt), Nat.succ_pos _⟩
instance Sm.neg {x : Int} {a : Nat} [h : Sm x a] : Sm (-x) a := ⟨by rw [Int.natAbs_neg]; exact h.lt, h.pos⟩
instance Sm.sub {x y : Int} {a b : Nat} [h : Sm x a] [k : Sm y b] : Sm (x - y) (a + b + 1) := by
  rw [Int.sub_eq_add_neg]
  exact Sm.add
instance (priority := low) Sm.lit {n : Nat} : Sm (no_index (OfNat.ofNat n : Int)) (n.log2 + 1) := ⟨by
  show n < 2 ^ (n.log2 + 1)
  exact Nat.lt_log2_self, Nat.succ_pos _⟩
theorem gMul_sm {i j : Int} {a b : Nat} [h : Sm i a] [k : Sm j b] (l : a + b ≤ 100000000) : gMul (.fro (.int i)) (.fro (.int j)) = vI (i * j) := by
  rw [gMul_eq, mulOk_of a b h.lt k.lt l h.pos k.pos]
  rfl
theorem divOk_sm {i j : Int} {b : Nat} [k : Sm j b] (h0 : j ≠ 0) (l : b ≤ 9000) : divOk i j = true := by
  unfold divOk
  have := log2_lt k.lt k.pos
  simp only [Bool.and_eq_true, decide_eq_true_eq]
  exact ⟨h0, by omega⟩
theorem gDiv_sm {i j : Int} {b : Nat} [k : Sm j b] (h0 : j ≠ 0) (l : b ≤ 9000) : gDiv (.fro (.int i)) (.fro (.int j)) = vI (i.fdiv j) := by
  rw [gDiv_eq, divOk_sm h0 l]
  rfl
theorem gMod_nz {i j : Int} (h0 : j ≠ 0) : gMod (.fro (.int i)) (.fro (.int j)) = vI (i.fmod j) := by
  rw [gMod_eq, modOk_of h0]
  rfl
theorem sm_range {x : Int} {n : Nat} (lo hi : Int) (h1 : lo ≤ x) (h2 : x ≤ hi) (hl : (-(2 ^ n : Nat) : Int) < lo) (hh : hi < (2 ^ n : Nat)) (p : 0 < n) : Sm x n := ⟨by omega, p⟩
/-! ### more runs -/
/-- what stands behind a statement -/
def nxt (o : Option Out) (G : FS) : Option Out := match o with
  | some (.nx ρ) => G ρ
  | o => o
theorem sSeq_nxt (F G : FS) (ρ : PEnv) : sSeq F G ρ = nxt (F ρ) G := rfl
theorem nxt_nx (ρ : PEnv) (G : FS) : nxt (some (.nx ρ)) G = G ρ := rfl
theorem nxt_rt (r : Rs) (G : FS) : nxt (some (.rt r)) G = some (.rt r) := rfl
theorem nxt_xc (c : Nat) (es : List Dt) (ρ : PEnv) (G : FS) : nxt (some (.xc c es ρ)) G = some (.xc c es ρ) := rfl
theorem sRaise_eq (c : Nat) (ρ : PEnv) : sRaise c ρ = some (.xc c [] ρ) := rfl
theorem sRet_fro {f : FE} {ρ : PEnv} {d : Dt} (h : f ρ = some (.ok (.fro d))) : sRet f ρ = some (.rt (.fro d)) := by
  unfold sRet
  rw [h]
  rfl
theorem sRet_ex {f : FE} {ρ : PEnv} {c : Nat} {es : List Dt} (h : f ρ = some (.ex c es)) : sRet f ρ = some (.xc c es ρ) := by
  unfold sRet
  rw [h]
  rfl
theorem sIf_t {t : FT} {F G : FS} {ρ : PEnv} (h : t ρ = some (.ok true)) : sIf t F G ρ = F ρ := by
  rw [sIf_eq, h]
  rfl
theorem sIf_f {t : FT} {F G : FS} {ρ : PEnv} (h : t ρ = some (.ok false)) : sIf t F G ρ = G ρ := by
  rw [sIf_eq, h]
  rfl
theorem sSet_run {n : Nat} {f : FE} {ρ : PEnv} {r : Rs} {c : Cel} (h : f ρ = some (.ok r)) (hc : celOf r = some c := by rfl) : sSet n f ρ = some (.nx (ρ.set n (some c))) := by
  rw [sSet_eq, h, bndS_ok, hc]
section
variable (i j : Int) (c : Nat) (ds as : List Dt) (d : Dt) (ρ : PEnv)
theorem gFld_tbl {m : Nat → Option Nat} {k : Nat} {e : Dt} (h1 : m c = some k) (h2 : ds[k]? = some e) : gFld m (.fro (.ins c ds)) = some (.ok (.fro e)) := by
  unfold gFld
  simp only [h1, h2]
theorem gAbs_eq : gAbs (.fro (.int i)) = vI (if i < 0 then -i else i) := rfl
theorem gInt_eq : gInt (.fro (.int i)) = vI i := rfl
theorem gGcd_eq : gGcd (.fro (.int i)) (.fro (.int j)) = vI (Int.gcd i j) := rfl
theorem isi_int : gIsi (ansB "int" []) (.fro (.int i)) = vB true := rfl
theorem isi_bool : gIsi (ansB "bool" []) (.fro (.int i)) = vB false := rfl
theorem gIsi_C {ns : List String} {cs : List (Nat × Bool)} {b : Bool} (h : cs.lookup c = some b) : gIsi (ansC ns cs) (.fro (.ins c ds)) = vB b := by
  unfold gIsi
  show (match ansC ns cs (.own c) with | some b => vB b | none => none) = _
  rw [show ansC ns cs (.own c) = some b from h]
theorem gOwn_int {g : G2} {okD : Nat → Dt → Bool} {ops : Nat → Option Fn} (y : Rs) : gOwn g okD ops (.fro (.int i)) y = g (.fro (.int i)) y := rfl
theorem gOwn_ins {g : G2} {okD : Nat → Dt → Bool} {ops : Nat → Option Fn} {fn : Fn} {r : Rs} (h1 : ops c = some fn) (h2 : okD c d = true) (h3 : fn [.ins c ds, d] = some (.ok r)) : gOwn g okD ops (.fro (.ins c ds)) (.fro d) = some (.ok r) := by
  unfold gOwn
  simp only [h1, h2, h3, if_true]
  rfl
theorem gOwn1_ins {g : G1} {ops : Nat → Option Fn} {fn : Fn} {r : Rs} (h1 : ops c = some fn) (h3 : fn [.ins c ds] = some (.ok r)) : gOwn1 g ops (.fro (.ins c ds)) = some (.ok r) := by
  unfold gOwn1
  simp only [h1, h3]
  rfl
end
/-! ### while -/
theorem while_end {t : FT} {body : FS} {ρ : PEnv} (h : t ρ = some (.ok false)) : whileD t body 1 ρ = some (.nx ρ) := by
  unfold whileD
  rw [h]
  rfl
theorem while_step {t : FT} {body : FS} {ρ ρ2 : PEnv} {o : Out} {m : Nat} (h : t ρ = some (.ok true)) (hb : body ρ = some (.nx ρ2)) (r : whileD t body m ρ2 = some o) : whileD t body (m + 1) ρ = some o := by
  unfold whileD
  rw [h, bndS_ok, if_pos rfl, hb]
  exact r
/-- a loop whose invariant's measure falls -/
theorem while_inv {t : FT} {body : FS} (I : Nat → PEnv → Prop) : ∀ (n : Nat) (ρ : PEnv), I n ρ → (∀ n ρ, I n ρ → t ρ = some (.ok false) ∨ (t ρ = some (.ok true) ∧ ∃ ρ2 k, k < n ∧ body ρ = some (.nx ρ2) ∧ I k ρ2)) →
    ∃ ρ' k, sWhile t body ρ = some (.nx ρ') ∧ I k ρ' ∧ t ρ' = some (.ok false) := by
  have go : (∀ n ρ, I n ρ → t ρ = some (.ok false) ∨ (t ρ = some (.ok true) ∧ ∃ ρ2 k, k < n ∧ body ρ = some (.nx ρ2) ∧ I k ρ2)) → ∀ (n : Nat) (ρ : PEnv), I n ρ → ∃ m ρ' k, whileD t body m ρ = some (.nx ρ') ∧ I k ρ' ∧ t ρ' = some (.ok false) := by
    intro st n
    induction n using Nat.strongRecOn with
    | ind n ih =>
      intro ρ h
      rcases st n ρ h with e | ⟨e, ρ2, k, hk, hb, h2⟩
      · exact ⟨1, ρ, n, while_end e, h, e⟩
      · obtain ⟨m, ρ', k', r, a, b⟩ := ih k hk ρ2 h2
        exact ⟨m + 1, ρ', k', while_step e hb r, a, b⟩
  intro n ρ h st
  obtain ⟨m, ρ', k, r, a, b⟩ := go st n ρ h
  exact ⟨ρ', k, sWhile_of r, a, b⟩
end Pd

set_option maxHeartbeats 2000000
/-! PdR: fractions: the plain functions of the class and what they do; c: the class's place, e0: the error's. -/
namespace Pd
open PySem PySem.Spec L2
theorem sFld_run {i c j : Nat} {f : FE} {ρ : PEnv} {d : Dt} {ds : List Dt} (h : f ρ = some (.ok (.fro d))) (h1 : ρ[i]? = some (some (.mk c ds))) (h2 : ds.length = j := by rfl) : sFld i c j f ρ = some (.nx (ρ.set i (some (.mk c (ds ++ [d]))))) := by
  unfold sFld
  rw [h, bndS_ok, frz_fro, bndS_ok, h1]
  exact if_pos ⟨rfl, h2⟩
theorem fnI_run {c nf np nl : Nat} {F : FS} {args : List Dt} (h : args.length = np) : fnI c nf np nl F args = outI c nf (F (some (.mk c []) :: (args.map (fun d => some (.fro d)) ++ List.replicate nl none))) := if_pos h
/-! ### making -/
noncomputable def b_frInit (c e0 : Nat) : FS :=
  sSeq (sIf (tB (e2 gEqS (eVar 2) (eC (.int 0))))
  (sRaise e0)
  sNext)
  (sSeq (sSet 3 (e2 gGcd (eVar 1) (eVar 2)))
  (sSeq (sIf (tB (e2 gLt (eVar 2) (eC (.int 0))))
  (sSet 3 (e1 gNeg (eVar 3)))
  sNext)
  (sSeq (sFld 0 c 0 (e2 gDiv (eVar 1) (eVar 3)))
  (sFld 0 c 1 (e2 gDiv (eVar 2) (eVar 3))))))
def frS (n d : Int) : Int := if d < 0 then -(Int.gcd n d : Int) else (Int.gcd n d : Int)
def frP (n d : Int) : Int := n.fdiv (frS n d)
def frQ (n d : Int) : Int := d.fdiv (frS n d)
theorem gcd_pos' {n d : Int} (hd : d ≠ 0) : 0 < (Int.gcd n d : Int) := by
  have : 0 < Int.gcd n d := Int.gcd_pos_of_ne_zero_right n hd
  omega
theorem frS_ne {n d : Int} (hd : d ≠ 0) : frS n d ≠ 0 := by
  have := gcd_pos' (n := n) hd
  unfold frS
  split <;> omega
theorem frS_dvd_n (n d : Int) : frS n d ∣ n := by
  unfold frS
  split
  · exact Int.neg_dvd.mpr (Int.gcd_dvd_left ..)
  · exact Int.gcd_dvd_left ..
theorem frS_dvd_d (n d : Int) : frS n d ∣ d := by
  unfold frS
  split
  · exact Int.neg_dvd.mpr (Int.gcd_dvd_right ..)
  · exact Int.gcd_dvd_right ..
theorem frP_mul {n d : Int} (hd : d ≠ 0) : frP n d * frS n d = n := by
  unfold frP
  obtain ⟨k, hk⟩ := frS_dvd_n n d
  have hs := frS_ne (n := n) hd
  generalize frS n d = s at *
  have : n.fdiv s = k := by rw [hk, Int.mul_comm, Int.mul_fdiv_cancel _ hs]
  rw [this, Int.mul_comm, ← hk]
theorem frQ_mul {n d : Int} (hd : d ≠ 0) : frQ n d * frS n d = d := by
  unfold frQ
  obtain ⟨k, hk⟩ := frS_dvd_d n d
  have hs := frS_ne (n := n) hd
  generalize frS n d = s at *
  have : d.fdiv s = k := by rw [hk, Int.mul_comm, Int.mul_fdiv_cancel _ hs]
  rw [this, Int.mul_comm, ← hk]
theorem frQ_pos {n d : Int} (hd : d ≠ 0) : 0 < frQ n d := by
  have h := frQ_mul (n := n) hd
  have g := gcd_pos' (n := n) hd
  rcases Int.lt_or_gt_of_ne hd with h0 | h0
  · have hs : frS n d < 0 := by unfold frS; rw [if_pos h0]; omega
    rcases Int.lt_trichotomy (frQ n d) 0 with q | q | q
    · have := Int.mul_pos_of_neg_of_neg q hs
      omega
    · rw [q, Int.zero_mul] at h; omega
    · exact q
  · have hs : 0 < frS n d := by unfold frS; rw [if_neg (by omega)]; omega
    rcases Int.lt_trichotomy (frQ n d) 0 with q | q | q
    · have := Int.mul_neg_of_neg_of_pos q hs
      omega
    · rw [q, Int.zero_mul] at h; omega
    · exact q
theorem fr_cross {n d : Int} (hd : d ≠ 0) : frP n d * d = n * frQ n d := by
  have h1 := frP_mul (n := n) hd
  have h2 := frQ_mul (n := n) hd
  calc frP n d * d = frP n d * (frQ n d * frS n d) := by rw [h2]
    _ = (frP n d * frS n d) * frQ n d := by rw [Int.mul_comm (frQ n d), ← Int.mul_assoc]
    _ = n * frQ n d := by rw [h1]
theorem fr_gcd {n d : Int} (hd : d ≠ 0) : Int.gcd (frP n d) (frQ n d) = 1 := by
  have h1 := frP_mul (n := n) hd
  have h2 := frQ_mul (n := n) hd
  have h3 : Int.gcd (frP n d * frS n d) (frQ n d * frS n d) = Int.gcd (frP n d) (frQ n d) * (frS n d).natAbs := Int.gcd_mul_right ..
  rw [h1, h2] at h3
  have h4 : (frS n d).natAbs = Int.gcd n d := by unfold frS; split <;> simp
  rw [h4] at h3
  have hp : 0 < Int.gcd n d := Int.gcd_pos_of_ne_zero_right n hd
  have := Nat.eq_of_mul_eq_mul_right hp (show Int.gcd (frP n d) (frQ n d) * Int.gcd n d = 1 * Int.gcd n d by omega)
  exact this
theorem natAbs_le_of_mul {a b c : Int} (h : a * b = c) (hb : b ≠ 0) : a.natAbs ≤ c.natAbs := by
  rw [← h, Int.natAbs_mul]
  exact Nat.le_mul_of_pos_right _ (Int.natAbs_pos.mpr hb)
theorem frP_le {n d : Int} (hd : d ≠ 0) : (frP n d).natAbs ≤ n.natAbs := natAbs_le_of_mul (frP_mul hd) (frS_ne hd)
theorem frQ_le {n d : Int} (hd : d ≠ 0) : (frQ n d).natAbs ≤ d.natAbs := natAbs_le_of_mul (frQ_mul hd) (frS_ne hd)
theorem frS_le {n d : Int} (hd : d ≠ 0) : (frS n d).natAbs ≤ d.natAbs := by
  have h := frQ_mul (n := n) hd
  rw [Int.mul_comm] at h
  exact natAbs_le_of_mul h (by have := frQ_pos (n := n) hd; omega)
theorem frInit_run (c e0 : Nat) {n d : Int} (hd : d ≠ 0) {b : Nat} [k : Sm d b] (hb : b ≤ 9000) : fnI c 2 2 1 (b_frInit c e0) [.int n, .int d] = some (.ok [.int (frP n d), .int (frQ n d)]) := by
  rw [fnI_run (np := 2) rfl]
  unfold b_frInit
  show outI c 2 (sSeq _ _ [some (.mk c []), cI n, cI d, none]) = _
  have w1 : sSet 3 (e2 gGcd (eVar 1) (eVar 2)) [some (.mk c []), cI n, cI d, none] = some (.nx [some (.mk c []), cI n, cI d, cI (Int.gcd n d)]) := by
    simp [eVar, gGcd_eq]
  have w3 : sIf (tB (e2 gLt (eVar 2) (eC (.int 0)))) (sSet 3 (e1 gNeg (eVar 3))) sNext [some (.mk c []), cI n, cI d, cI (Int.gcd n d)] = some (.nx [some (.mk c []), cI n, cI d, cI (frS n d)]) := by
    by_cases h : d < 0
    · simp [eVar, h, frS]
    · simp [eVar, h, frS]
  have s1 : Sm (frS n d) b := ⟨Nat.lt_of_le_of_lt (frS_le hd) k.lt, k.pos⟩
  rw [sSeq_nx (ρ' := [some (.mk c []), cI n, cI d, none]) (by simp [eVar, hd]), sSeq_nx w1, sSeq_nx w3,
    sSeq_nx (ρ' := [some (.mk c [.int (frP n d)]), cI n, cI d, cI (frS n d)]) (by
      rw [sFld_run (d := .int (frP n d)) (ds := []) (by simp [eVar, gDiv_sm (frS_ne hd) hb, frP]) rfl]
      rfl),
    sFld_run (d := .int (frQ n d)) (ds := [.int (frP n d)]) (by simp [eVar, gDiv_sm (frS_ne hd) hb, frQ]) rfl]
  exact if_pos ⟨rfl, rfl⟩
theorem frInit_ex (c e0 : Nat) (n : Int) : fnI c 2 2 1 (b_frInit c e0) [.int n, .int 0] = some (.ex e0 []) := by
  rw [fnI_run (np := 2) rfl]
  unfold b_frInit
  show outI c 2 (sSeq _ _ [some (.mk c []), cI n, cI 0, none]) = _
  have w1 : sIf (tB (e2 gEqS (eVar 2) (eC (.int 0)))) (sRaise e0) sNext [some (.mk c []), cI n, cI 0, none] = some (.xc e0 [] [some (.mk c []), cI n, cI 0, none]) := by
    simp [eVar, sRaise_eq]
  rw [sSeq_xc w1]
  rfl
noncomputable abbrev m_fr (c e0 : Nat) : Fn := mkD c (fnI c 2 2 1 (b_frInit c e0))
theorem fr_make (c e0 : Nat) {n d : Int} (hd : d ≠ 0) {b : Nat} [k : Sm d b] (hb : b ≤ 9000) : m_fr c e0 [.int n, .int d] = some (.ok (.fro (.ins c [.int (frP n d), .int (frQ n d)]))) := by
  unfold m_fr mkD
  rw [frInit_run c e0 hd hb]
  rfl
theorem fr_zero (c e0 : Nat) (n : Int) : m_fr c e0 [.int n, .int 0] = some (.ex e0 []) := by
  unfold m_fr mkD
  rw [frInit_ex]
  rfl
/-! ### greatest common divisors by the law's own function -/
noncomputable def b_dvs : FS :=
  sSeq (sSet 0 (e1 gAbs (eVar 0)))
  (sSeq (sSet 1 (e1 gAbs (eVar 1)))
  (sSeq (sWhile (tB (e2 gGt (eVar 1) (eC (.int 0))))
  (sSeq (sSet 2 (e2 gMod (e1 gInt (eVar 0)) (eVar 1)))
  (sSeq (sSet 0 (eVar 1))
  (sSet 1 (eVar 2)))))
  (sRetV 0)))
theorem abs_eq (i : Int) : (if i < 0 then -i else i) = (i.natAbs : Int) := by split <;> omega
theorem dvs_run (a b : Int) : fnD 2 1 b_dvs [.int a, .int b] = some (.ok (.fro (.int (Int.gcd a b)))) := by
  rw [fnD_run (np := 2) rfl]
  unfold b_dvs
  show outR (sSeq _ _ [cI a, cI b, none]) = _
  rw [sSeq_nx (ρ' := [cI a.natAbs, cI b, none]) (by simp [eVar, gAbs_eq, abs_eq]), sSeq_nx (ρ' := [cI a.natAbs, cI b.natAbs, none]) (by simp [eVar, gAbs_eq, abs_eq])]
  obtain ⟨ρ', k, e, ⟨x, y, v, rfl, hg, rfl⟩, ht⟩ := while_inv (t := tB (e2 gGt (eVar 1) (eC (.int 0)))) (body := sSeq (sSet 2 (e2 gMod (e1 gInt (eVar 0)) (eVar 1))) (sSeq (sSet 0 (eVar 1)) (sSet 1 (eVar 2))))
    (fun k ρ => ∃ (x y : Nat) (v : Option Cel), ρ = [cI x, cI y, v] ∧ Nat.gcd x y = Int.gcd a b ∧ y = k) b.natAbs [cI a.natAbs, cI b.natAbs, none] ⟨_, _, _, rfl, rfl, rfl⟩ (fun k ρ ⟨x, y, v, e, hg, hk⟩ => by
      subst e
      by_cases hy : y = 0
      · left
        simp [eVar, hy]
      · right
        have hy' : (0 : Int) < y := by omega
        refine ⟨by simp [eVar]; omega, [cI y, cI (x % y : Nat), cI (x % y : Nat)], x % y, ?_, ?_, y, x % y, _, rfl, ?_, rfl⟩
        · rw [← hk]; exact Nat.mod_lt _ (by omega)
        · have m : (x : Int).fmod (y : Int) = ((x % y : Nat) : Int) := by
            rw [Int.fmod_eq_emod_of_nonneg _ (by omega)]
            rfl
          have m2 : ((y : Int) ≠ 0) := by omega
          rw [sSeq_nx (ρ' := [cI x, cI y, cI (x % y : Nat)]) (by simp [eVar, gInt_eq, gMod_nz m2, m]), sSeq_nx (ρ' := [cI y, cI y, cI (x % y : Nat)]) (by simp [eVar])]
          simp [eVar]
        · rw [← hg, Nat.gcd_comm x y, Nat.gcd_rec y x, Nat.gcd_comm])
  have hy : y = 0 := by
    simp [eVar] at ht
    omega
  subst hy
  rw [sSeq_nx e]
  show some (Ex.ok (Rs.fro (Dt.int (x : Int)))) = _
  rw [← hg, Nat.gcd_zero_right]
/-! ### the law's own test -/
noncomputable def b_isI : FS := sRet (eAnd (e1 (gIsi (ansB "int" [])) (eVar 0)) (eNot (e1 (gIsi (ansB "bool" [])) (eVar 0))))
theorem isI_ok (i : Int) : fnD 1 0 b_isI [.int i] = some (.ok (.fro (.bl true))) := by
  rw [fnD_run (np := 1) rfl]
  rfl
noncomputable def b_lawIs (c : Nat) : FS :=
  sSeq (sIf (tOr (tNot (tTru (e1 (gIsi (ansC [] [(c, true)])) (eVar 0)))) (tOr (tNot (tTru (eCa 1 (fnD 1 0 b_isI) (aCons (e1 (gFld (tbl [(c, 0)])) (eVar 0)) aNil)))) (tNot (tTru (eCa 1 (fnD 1 0 b_isI) (aCons (e1 (gFld (tbl [(c, 1)])) (eVar 0)) aNil))))))
  (sRet (eC (.bl false)))
  sNext)
  (sSeq (sIf (tOr (tB (e2 gLt (e1 (gFld (tbl [(c, 1)])) (eVar 0)) (eC (.int 1)))) (tB (e2 gNeS (eCa 2 (fnD 2 1 b_dvs) (aCons (e1 (gFld (tbl [(c, 0)])) (eVar 0)) (aCons (e1 (gFld (tbl [(c, 1)])) (eVar 0)) aNil))) (eC (.int 1)))))
  (sRet (eC (.bl false)))
  sNext)
  (sRet (e2 gEqS (e2 gMul (e1 (gFld (tbl [(c, 0)])) (eVar 0)) (eVar 2)) (e2 gMul (eVar 1) (e1 (gFld (tbl [(c, 1)])) (eVar 0))))))
theorem tbl_one {α : Type} (c : Nat) (x : α) : tbl [(c, x)] c = some x := by simp [tbl, List.lookup]
/-- a fraction in its one form -/
def Fr (c : Nat) (x : Dt) (p q : Int) : Prop := x = .ins c [.int p, .int q] ∧ 0 < q ∧ Int.gcd p q = 1
theorem fr_num {c : Nat} {p q : Int} : gFld (tbl [(c, 0)]) (.fro (.ins c [.int p, .int q])) = some (.ok (.fro (.int p))) := gFld_tbl c _ (tbl_one c 0) rfl
theorem fr_den {c : Nat} {p q : Int} : gFld (tbl [(c, 1)]) (.fro (.ins c [.int p, .int q])) = some (.ok (.fro (.int q))) := gFld_tbl c _ (tbl_one c 1) rfl
theorem lawIs_run (c : Nat) {p q n d : Int} (hq : 0 < q) (hg : Int.gcd p q = 1) {a1 a2 a3 a4 : Nat} [Sm p a1] [Sm q a2] [Sm n a3] [Sm d a4] (h1 : a1 + a4 ≤ 100000000) (h2 : a3 + a2 ≤ 100000000) :
    fnD 3 0 (b_lawIs c) [.ins c [.int p, .int q], .int n, .int d] = some (.ok (.fro (.bl (decide (p * d = n * q))))) := by
  rw [fnD_run (np := 3) rfl]
  unfold b_lawIs
  show outR (sSeq _ _ [cD (.ins c [.int p, .int q]), cI n, cI d]) = _
  have hi : gIsi (ansC [] [(c, true)]) (.fro (.ins c [.int p, .int q])) = vB true := gIsi_C c _ (by simp [List.lookup])
  rw [sSeq_nx (ρ' := [cD (.ins c [.int p, .int q]), cI n, cI d]) (by
    simp [eVar, hi, fr_num, fr_den, isI_ok]), sSeq_nx (ρ' := [cD (.ins c [.int p, .int q]), cI n, cI d]) (by
    have : ¬ q < 1 := by omega
    simp [eVar, fr_num, fr_den, dvs_run, hg, this])]
  rw [sRet_fro (d := .bl (decide (p * d = n * q))) (by simp [eVar, fr_num, fr_den, gMul_sm h1, gMul_sm h2])]
  rfl
end Pd

set_option maxHeartbeats 2000000
/-! PdS: the operators of fractions. -/
namespace Pd
open PySem PySem.Spec L2
theorem frP_le' (n d : Int) : (frP n d).natAbs ≤ n.natAbs := by
  by_cases hd : d = 0
  · subst hd
    have hs : frS n 0 = (n.natAbs : Int) := by unfold frS; simp
    unfold frP
    rw [hs]
    rcases Int.lt_trichotomy n 0 with h | h | h
    · have h2 : (n.natAbs : Int) = -n := by omega
      have h3 : n.fdiv (-n) = -1 := by
        have := Int.mul_fdiv_cancel (-1) (show (-n) ≠ 0 by omega)
        rwa [show -1 * -n = n by omega] at this
      rw [h2, h3]
      omega
    · subst h; decide
    · have h2 : (n.natAbs : Int) = n := by omega
      rw [h2, Int.fdiv_self (by omega)]
      omega
  · exact frP_le hd
theorem frQ_le' (n d : Int) : (frQ n d).natAbs ≤ d.natAbs := by
  by_cases hd : d = 0
  · subst hd
    unfold frQ
    rw [Int.zero_fdiv]
    exact Nat.le_refl _
  · exact frQ_le hd
instance Sm.frP {n d : Int} {a : Nat} [h : Sm n a] : Sm (Pd.frP n d) a := ⟨Nat.lt_of_le_of_lt (frP_le' n d) h.lt, h.pos⟩
instance Sm.frQ {n d : Int} {a : Nat} [h : Sm d a] : Sm (Pd.frQ n d) a := ⟨Nat.lt_of_le_of_lt (frQ_le' n d) h.lt, h.pos⟩
section
variable (c e0 : Nat)
noncomputable def eNum (c i : Nat) : FE := e1 (gFld (tbl [(c, 0)])) (eVar i)
noncomputable def eDen (c i : Nat) : FE := e1 (gFld (tbl [(c, 1)])) (eVar i)
noncomputable def b_frAdd : FS := sRet (eCa 2 (m_fr c e0) (aCons (e2 gAdd (e2 gMul (eNum c 0) (eDen c 1)) (e2 gMul (eNum c 1) (eDen c 0))) (aCons (e2 gMul (eDen c 0) (eDen c 1)) aNil)))
noncomputable def b_frSub : FS := sRet (eCa 2 (m_fr c e0) (aCons (e2 gSub (e2 gMul (eNum c 0) (eDen c 1)) (e2 gMul (eNum c 1) (eDen c 0))) (aCons (e2 gMul (eDen c 0) (eDen c 1)) aNil)))
noncomputable def b_frMul : FS := sRet (eCa 2 (m_fr c e0) (aCons (e2 gMul (eNum c 0) (eNum c 1)) (aCons (e2 gMul (eDen c 0) (eDen c 1)) aNil)))
noncomputable def b_frNeg : FS := sRet (eCa 2 (m_fr c e0) (aCons (e1 gNeg (eNum c 0)) (aCons (eDen c 0) aNil)))
end
/-- the data of n / d -/
abbrev fr (c : Nat) (n d : Int) : Dt := .ins c [.int (frP n d), .int (frQ n d)]
abbrev dF (c : Nat) (p q : Int) : Dt := .ins c [.int p, .int q]
theorem eNum_eq {c i : Nat} {ρ : PEnv} {p q : Int} (h : ρ[i]? = some (cD (dF c p q))) : eNum c i ρ = some (.ok (.fro (.int p))) := by
  unfold eNum
  rw [e1_eq, eVar_fro ρ (dF c p q) i h, bnd_ok, fr_num]
theorem eDen_eq {c i : Nat} {ρ : PEnv} {p q : Int} (h : ρ[i]? = some (cD (dF c p q))) : eDen c i ρ = some (.ok (.fro (.int q))) := by
  unfold eDen
  rw [e1_eq, eVar_fro ρ (dF c p q) i h, bnd_ok, fr_den]
section
variable {c e0 : Nat} {p q r s : Int} {a1 a2 a3 a4 : Nat} [k1 : Sm p a1] [k2 : Sm q a2] [k3 : Sm r a3] [k4 : Sm s a4]
theorem ret_make {f g : FE} {ρ : PEnv} {n d : Int} {b : Nat} [k : Sm d b] (h1 : f ρ = some (.ok (.fro (.int n)))) (h2 : g ρ = some (.ok (.fro (.int d)))) (hd : d ≠ 0) (hb : b ≤ 9000) : outR (sRet (eCa 2 (m_fr c e0) (aCons f (aCons g aNil))) ρ) = some (.ok (.fro (fr c n d))) := by
  rw [sRet_fro (d := fr c n d) (by
    rw [eCa_run (ds := [.int n, .int d]) (by simp only [aCons_eq, h1, h2, bnd_ok, frz_fro, aNil_eq]), fr_make c e0 hd hb])]
  rfl
theorem frAdd_run (hq : q ≠ 0) (hs : s ≠ 0) (h1 : a1 + a4 ≤ 100000000) (h2 : a3 + a2 ≤ 100000000) (h3 : a2 + a4 ≤ 9000) : fnD 2 0 (b_frAdd c e0) [dF c p q, dF c r s] = some (.ok (.fro (fr c (p * s + r * q) (q * s)))) := by
  rw [fnD_run (np := 2) rfl]
  refine ret_make (c := c) (e0 := e0) (n := p * s + r * q) (d := q * s) ?_ ?_ (Int.mul_ne_zero hq hs) h3
  · simp only [e2_eq, eNum_eq (p := p) (q := q) (i := 0) (c := c) (ρ := [cD (dF c p q), cD (dF c r s)]) rfl, eDen_eq (p := r) (q := s) (i := 1) (c := c) (ρ := [cD (dF c p q), cD (dF c r s)]) rfl, eNum_eq (p := r) (q := s) (i := 1) (c := c) (ρ := [cD (dF c p q), cD (dF c r s)]) rfl, eDen_eq (p := p) (q := q) (i := 0) (c := c) (ρ := [cD (dF c p q), cD (dF c r s)]) rfl,
      bnd_ok, gMul_sm h1, gMul_sm h2, vI, gAdd_eq, List.map_cons, List.map_nil, List.replicate_zero, List.append_nil]
  · simp only [e2_eq, eDen_eq (p := r) (q := s) (i := 1) (c := c) (ρ := [cD (dF c p q), cD (dF c r s)]) rfl, eDen_eq (p := p) (q := q) (i := 0) (c := c) (ρ := [cD (dF c p q), cD (dF c r s)]) rfl,
      bnd_ok, gMul_sm (show a2 + a4 ≤ 100000000 by omega), vI, List.map_cons, List.map_nil, List.replicate_zero, List.append_nil]
theorem frSub_run (hq : q ≠ 0) (hs : s ≠ 0) (h1 : a1 + a4 ≤ 100000000) (h2 : a3 + a2 ≤ 100000000) (h3 : a2 + a4 ≤ 9000) : fnD 2 0 (b_frSub c e0) [dF c p q, dF c r s] = some (.ok (.fro (fr c (p * s - r * q) (q * s)))) := by
  rw [fnD_run (np := 2) rfl]
  refine ret_make (c := c) (e0 := e0) (n := p * s - r * q) (d := q * s) ?_ ?_ (Int.mul_ne_zero hq hs) h3
  · simp only [e2_eq, eNum_eq (p := p) (q := q) (i := 0) (c := c) (ρ := [cD (dF c p q), cD (dF c r s)]) rfl, eDen_eq (p := r) (q := s) (i := 1) (c := c) (ρ := [cD (dF c p q), cD (dF c r s)]) rfl, eNum_eq (p := r) (q := s) (i := 1) (c := c) (ρ := [cD (dF c p q), cD (dF c r s)]) rfl, eDen_eq (p := p) (q := q) (i := 0) (c := c) (ρ := [cD (dF c p q), cD (dF c r s)]) rfl,
      bnd_ok, gMul_sm h1, gMul_sm h2, vI, gSub_eq, List.map_cons, List.map_nil, List.replicate_zero, List.append_nil]
  · simp only [e2_eq, eDen_eq (p := r) (q := s) (i := 1) (c := c) (ρ := [cD (dF c p q), cD (dF c r s)]) rfl, eDen_eq (p := p) (q := q) (i := 0) (c := c) (ρ := [cD (dF c p q), cD (dF c r s)]) rfl,
      bnd_ok, gMul_sm (show a2 + a4 ≤ 100000000 by omega), vI, List.map_cons, List.map_nil, List.replicate_zero, List.append_nil]
theorem frMul_run (hq : q ≠ 0) (hs : s ≠ 0) (h1 : a1 + a3 ≤ 100000000) (h3 : a2 + a4 ≤ 9000) : fnD 2 0 (b_frMul c e0) [dF c p q, dF c r s] = some (.ok (.fro (fr c (p * r) (q * s)))) := by
  rw [fnD_run (np := 2) rfl]
  refine ret_make (c := c) (e0 := e0) (n := p * r) (d := q * s) ?_ ?_ (Int.mul_ne_zero hq hs) h3
  · simp only [e2_eq, eNum_eq (p := p) (q := q) (i := 0) (c := c) (ρ := [cD (dF c p q), cD (dF c r s)]) rfl, eNum_eq (p := r) (q := s) (i := 1) (c := c) (ρ := [cD (dF c p q), cD (dF c r s)]) rfl,
      bnd_ok, gMul_sm h1, vI, List.map_cons, List.map_nil, List.replicate_zero, List.append_nil]
  · simp only [e2_eq, eDen_eq (p := r) (q := s) (i := 1) (c := c) (ρ := [cD (dF c p q), cD (dF c r s)]) rfl, eDen_eq (p := p) (q := q) (i := 0) (c := c) (ρ := [cD (dF c p q), cD (dF c r s)]) rfl,
      bnd_ok, gMul_sm (show a2 + a4 ≤ 100000000 by omega), vI, List.map_cons, List.map_nil, List.replicate_zero, List.append_nil]
theorem frNeg_run (hq : q ≠ 0) (h3 : a2 ≤ 9000) : fnD 1 0 (b_frNeg c e0) [dF c p q] = some (.ok (.fro (fr c (-p) q))) := by
  rw [fnD_run (np := 1) rfl]
  refine ret_make (c := c) (e0 := e0) (n := -p) (d := q) ?_ ?_ hq h3
  · simp only [e1_eq, eNum_eq (p := p) (q := q) (i := 0) (c := c) (ρ := [cD (dF c p q)]) rfl, bnd_ok, gNeg_eq, vI, List.map_cons, List.map_nil, List.replicate_zero, List.append_nil]
  · simp only [eDen_eq (p := p) (q := q) (i := 0) (c := c) (ρ := [cD (dF c p q)]) rfl, List.map_cons, List.map_nil, List.replicate_zero, List.append_nil]
end
/-! ### values -/
section
variable {p q r s a b c d P Q : Int}
theorem val_add (hq : q ≠ 0) (hs : s ≠ 0) (h1 : p * b = a * q) (h2 : r * d = c * s) (h3 : P * (q * s) = (p * s + r * q) * Q) : P * (b * d) = (a * d + c * b) * Q := by
  refine Int.eq_of_mul_eq_mul_left (Int.mul_ne_zero hq hs) ?_
  grind
theorem val_sub (hq : q ≠ 0) (hs : s ≠ 0) (h1 : p * b = a * q) (h2 : r * d = c * s) (h3 : P * (q * s) = (p * s - r * q) * Q) : P * (b * d) = (a * d - c * b) * Q := by
  refine Int.eq_of_mul_eq_mul_left (Int.mul_ne_zero hq hs) ?_
  grind
theorem val_mul (hq : q ≠ 0) (hs : s ≠ 0) (h1 : p * b = a * q) (h2 : r * d = c * s) (h3 : P * (q * s) = (p * r) * Q) : P * (b * d) = (a * c) * Q := by
  refine Int.eq_of_mul_eq_mul_left (Int.mul_ne_zero hq hs) ?_
  grind
theorem val_neg (hq : q ≠ 0) (h1 : p * b = a * q) (h3 : P * q = -p * Q) : P * b = -a * Q := by
  refine Int.eq_of_mul_eq_mul_left hq ?_
  grind
end
end Pd

set_option maxHeartbeats 2000000
/-! PdT: calls as a law has them. -/
namespace Pd
open PySem PySem.Spec L2
theorem gOwn_tbl {g : G2} {c : Nat} {ds es : List Dt} {f : Fn} {r : Rs} (h : f [.ins c ds, .ins c es] = some (.ok r)) : gOwn g sameC (tbl [(c, mfn 2 (fun ds => ds) f)]) (.fro (.ins c ds)) (.fro (.ins c es)) = some (.ok r) :=
  gOwn_ins c ds (.ins c es) (fn := mfn 2 (fun ds => ds) f) (tbl_one c _) (by simp [sameC]) (by rw [mfn_run]; exact h)
theorem gOwn1_tbl {g : G1} {c : Nat} {ds : List Dt} {f : Fn} {r : Rs} (h : f [.ins c ds] = some (.ok r)) : gOwn1 g (tbl [(c, mfn 1 (fun ds => ds) f)]) (.fro (.ins c ds)) = some (.ok r) :=
  gOwn1_ins c ds (fn := mfn 1 (fun ds => ds) f) (tbl_one c _) (by rw [mfn_run]; exact h)
/-- _law_is of a fraction that has the value -/
theorem lawIs_call {c : Nat} {fe fn fd : FE} {ρ : PEnv} {N D n d : Int} {a1 a2 a3 a4 : Nat} [Sm N a1] [Sm D a2] [Sm n a3] [Sm d a4] (he : fe ρ = some (.ok (.fro (fr c N D)))) (hn : fn ρ = some (.ok (.fro (.int n)))) (hd : fd ρ = some (.ok (.fro (.int d))))
    (hD : D ≠ 0) (hv : frP N D * d = n * frQ N D) (h1 : a1 + a4 ≤ 100000000) (h2 : a3 + a2 ≤ 100000000) : eCa 3 (fnD 3 0 (b_lawIs c)) (aCons fe (aCons fn (aCons fd aNil))) ρ = some (.ok (.fro (.bl true))) := by
  rw [eCa_run (ds := [fr c N D, .int n, .int d]) (by simp only [aCons_eq, he, hn, hd, bnd_ok, frz_fro, aNil_eq]), lawIs_run c (frQ_pos hD) (fr_gcd hD) h1 h2, hv]
  simp
/-- operators on variables -/
theorem addV {c e0 i j : Nat} {ρ : PEnv} {p q r s : Int} {a1 a2 a3 a4 : Nat} [k1 : Sm p a1] [k2 : Sm q a2] [k3 : Sm r a3] [k4 : Sm s a4] (hi : ρ[i]? = some (cD (dF c p q))) (hj : ρ[j]? = some (cD (dF c r s))) (hq : q ≠ 0) (hs : s ≠ 0) (h1 : a1 + a4 ≤ 100000000) (h2 : a3 + a2 ≤ 100000000) (h3 : a2 + a4 ≤ 9000) :
    e2 (gOwn gAdd sameC (tbl [(c, mfn 2 (fun ds => ds) (fnD 2 0 (b_frAdd c e0)))])) (eVar i) (eVar j) ρ = some (.ok (.fro (fr c (p * s + r * q) (q * s)))) := by
  rw [e2_eq, eVar_fro ρ _ i hi, eVar_fro ρ _ j hj, bnd_ok, bnd_ok, gOwn_tbl (frAdd_run hq hs h1 h2 h3)]
theorem subV {c e0 i j : Nat} {ρ : PEnv} {p q r s : Int} {a1 a2 a3 a4 : Nat} [k1 : Sm p a1] [k2 : Sm q a2] [k3 : Sm r a3] [k4 : Sm s a4] (hi : ρ[i]? = some (cD (dF c p q))) (hj : ρ[j]? = some (cD (dF c r s))) (hq : q ≠ 0) (hs : s ≠ 0) (h1 : a1 + a4 ≤ 100000000) (h2 : a3 + a2 ≤ 100000000) (h3 : a2 + a4 ≤ 9000) :
    e2 (gOwn gSub sameC (tbl [(c, mfn 2 (fun ds => ds) (fnD 2 0 (b_frSub c e0)))])) (eVar i) (eVar j) ρ = some (.ok (.fro (fr c (p * s - r * q) (q * s)))) := by
  rw [e2_eq, eVar_fro ρ _ i hi, eVar_fro ρ _ j hj, bnd_ok, bnd_ok, gOwn_tbl (frSub_run hq hs h1 h2 h3)]
theorem mulV {c e0 i j : Nat} {ρ : PEnv} {p q r s : Int} {a1 a2 a3 a4 : Nat} [k1 : Sm p a1] [k2 : Sm q a2] [k3 : Sm r a3] [k4 : Sm s a4] (hi : ρ[i]? = some (cD (dF c p q))) (hj : ρ[j]? = some (cD (dF c r s))) (hq : q ≠ 0) (hs : s ≠ 0) (h1 : a1 + a3 ≤ 100000000) (h3 : a2 + a4 ≤ 9000) :
    e2 (gOwn gMul sameC (tbl [(c, mfn 2 (fun ds => ds) (fnD 2 0 (b_frMul c e0)))])) (eVar i) (eVar j) ρ = some (.ok (.fro (fr c (p * r) (q * s)))) := by
  rw [e2_eq, eVar_fro ρ _ i hi, eVar_fro ρ _ j hj, bnd_ok, bnd_ok, gOwn_tbl (frMul_run hq hs h1 h3)]
theorem negV {c e0 i : Nat} {ρ : PEnv} {p q : Int} {a1 a2 : Nat} [k1 : Sm p a1] [k2 : Sm q a2] (hi : ρ[i]? = some (cD (dF c p q))) (hq : q ≠ 0) (h3 : a2 ≤ 9000) :
    e1 (gOwn1 gNeg (tbl [(c, mfn 1 (fun ds => ds) (fnD 1 0 (b_frNeg c e0)))])) (eVar i) ρ = some (.ok (.fro (fr c (-p) q))) := by
  rw [e1_eq, eVar_fro ρ _ i hi, bnd_ok, gOwn1_tbl (frNeg_run hq h3)]
/-- the drawn numbers as a list of known length -/
theorem nums_at {ns : List Int} (hl : ns.length ≤ 63) (hb : ∀ z ∈ ns, Builtin.Int.intBits z ≤ 1048576) (n : Nat) (hn : n ≤ 1000) :
    ∃ z : Nat → Int, (∀ i, 0 ≤ z i ∧ z i < 1000000) ∧ fnD 2 5 b_nums [.lst (ns.map Dt.int), .int n] = some (.ok (.own ((List.range n).map fun i => Dt.int (z i)))) := by
  obtain ⟨xs, h1, h2, h3⟩ := nums_run hl hb n hn
  refine ⟨fun i => if h : i < xs.length then xs[i] else 0, fun i => ?_, ?_⟩
  · dsimp only
    split
    · exact h2 _ (List.getElem_mem _)
    · exact ⟨by omega, by omega⟩
  · rw [h3]
    congr 3
    apply List.ext_getElem
    · simp [h1]
    · intro i a b
      have : i < xs.length := by simpa using a
      simp [this]
theorem atI_lit {ds : List Dt} {n : Nat} {d : Dt} (h : ds[n]? = some d) : atI ds (OfNat.ofNat (α := Int) (no_index n)) = some d := atI_nat (Int.natCast_nonneg n) h
theorem p30 : (10 : Int) ^ 30 = 1000000000000000000000000000000 := by decide +kernel
theorem gPow_30 : gPow (.fro (.int 10)) (.fro (.int 30)) = vI 1000000000000000000000000000000 := by
  rw [gPow_eq, if_pos (by decide), show (30 : Int).toNat = 30 from rfl, p30]
end Pd

set_option maxHeartbeats 2000000
/-! PdU: methods and attributes run; floors, signs. -/
namespace Pd
open PySem PySem.Spec L2
theorem eMe_run {c n : Nat} {fn : Fn} {gD : List Dt → List Dt} {fo : FE} {fa : FA} {ρ : PEnv} {ds as : List Dt} {out : M Rs} (h : fo ρ = some (.ok (.fro (.ins c ds)))) (ha : fa ρ = some (.ok as)) (hf : fn (gD (.ins c ds :: as)) = out) (hl : as.length + 1 = n := by rfl) :
    eMe (tbl [(c, mfn n gD fn)]) fo fa ρ = out := by
  unfold eMe
  rw [h, bnd_ok]
  have : pickM (tbl [(c, mfn n gD fn)]) (.fro (.ins c ds)) = some (c, ds, mfn n gD fn) := by
    unfold pickM
    simp only [tbl_one]
  rw [this]
  show bnd (fa ρ) (fun as => mfn n gD fn (.ins c ds :: as)) = out
  rw [ha, bnd_ok]
  unfold mfn
  rw [if_pos (show (Dt.ins c ds :: as).length = n from hl), hf]
theorem gAtt_prop {c : Nat} {fn : Fn} {ds : List Dt} {r : Rs} (h : fn [.ins c ds] = some (.ok r)) : gAtt (tbl []) (tbl [(c, fn)]) (.fro (.ins c ds)) = some (.ok r) := by
  unfold gAtt
  have h0 : tbl ([] : List (Nat × Nat)) c = none := rfl
  simp only [h0, tbl_one, h]
  rfl
@[simp] theorem gEqS_bl {a b : Bool} : gEqS (.fro (.bl a)) (.fro (.bl b)) = vB (decide (a = b)) := by
  unfold gEqS sclD
  simp
@[simp] theorem gNeS_bl {a b : Bool} : gNeS (.fro (.bl a)) (.fro (.bl b)) = vB (!decide (a = b)) := by
  unfold gNeS sclD
  simp
section
variable {n d : Int}
theorem frS_pos (hd : 0 < d) : 0 < frS n d := by
  have := gcd_pos' (n := n) (d := d) (by omega)
  unfold frS
  rw [if_neg (by omega)]
  exact this
theorem frP_neg (hd : 0 < d) : frP n d < 0 ↔ n < 0 := by
  have h := frP_mul (n := n) (d := d) (by omega)
  have s := frS_pos (n := n) hd
  constructor
  · intro q
    have := Int.mul_neg_of_neg_of_pos q s
    omega
  · intro q
    rcases Int.lt_trichotomy (frP n d) 0 with z | z | z
    · exact z
    · rw [z, Int.zero_mul] at h; omega
    · have := Int.mul_pos z s
      omega
theorem frP_pos (hd : 0 < d) : 0 < frP n d ↔ 0 < n := by
  have h := frP_mul (n := n) (d := d) (by omega)
  have s := frS_pos (n := n) hd
  constructor
  · intro q
    have := Int.mul_pos q s
    omega
  · intro q
    rcases Int.lt_trichotomy (frP n d) 0 with z | z | z
    · have := Int.mul_neg_of_neg_of_pos z s
      omega
    · rw [z, Int.zero_mul] at h; omega
    · exact z
theorem frP_zero (hd : d ≠ 0) : frP n d = 0 ↔ n = 0 := by
  have h := frP_mul (n := n) hd
  have s := frS_ne (n := n) hd
  constructor
  · intro q
    rw [q, Int.zero_mul] at h
    exact h.symm
  · intro q
    rw [q] at h
    subst q
    rcases Int.mul_eq_zero.mp h with z | z
    · exact z
    · exact absurd z s
theorem floor_le (hd : 0 < d) : (frP n d).fdiv (frQ n d) * d ≤ n ∧ n < ((frP n d).fdiv (frQ n d) + 1) * d := by
  have hq := frQ_pos (n := n) (d := d) (by omega)
  have hc := fr_cross (n := n) (d := d) (by omega)
  generalize frP n d = p at *
  generalize frQ n d = q at *
  have e := Int.mul_fdiv_add_fmod p q
  have r0 := Int.fmod_nonneg_of_pos p hq
  have r1 := Int.fmod_lt_of_pos p hq
  generalize p.fdiv q = f at *
  generalize p.fmod q = r at *
  constructor
  · refine Int.le_of_mul_le_mul_left ?_ hq
    have : q * n - q * (f * d) = r * d := by grind
    have := Int.mul_nonneg r0 (Int.le_of_lt hd)
    omega
  · refine Int.lt_of_mul_lt_mul_left ?_ (Int.le_of_lt hq)
    have : q * ((f + 1) * d) - q * n = (q - r) * d := by grind
    have := Int.mul_pos (show 0 < q - r by omega) hd
    omega
theorem floor_small {F : Int} (hd : 0 < d) (h1 : F * d ≤ n) (h2 : n < (F + 1) * d) : F.natAbs ≤ n.natAbs := by
  rcases Int.lt_or_le F 0 with g | g
  · have h3 := Int.mul_le_mul_of_nonpos_left (show F + 1 ≤ 0 by omega) (show (1 : Int) ≤ d by omega)
    omega
  · have h3 := Int.mul_le_mul_of_nonneg_left (show (1 : Int) ≤ d by omega) g
    omega
theorem floor_whole (hd : 0 < d) : (frP n d).fdiv (frQ n d) * d = n ↔ frQ n d = 1 := by
  have hq := frQ_pos (n := n) (d := d) (by omega)
  have hc := fr_cross (n := n) (d := d) (by omega)
  have hg := fr_gcd (n := n) (d := d) (by omega)
  generalize frP n d = p at *
  generalize frQ n d = q at *
  have e := Int.mul_fdiv_add_fmod p q
  have r0 := Int.fmod_nonneg_of_pos p hq
  have r1 := Int.fmod_lt_of_pos p hq
  generalize p.fdiv q = f at *
  generalize p.fmod q = r at *
  constructor
  · intro h
    have h2 : r * d = 0 := by grind
    have h3 : r = 0 := by
      rcases Int.mul_eq_zero.mp h2 with z | z
      · exact z
      · omega
    have h4 : q ∣ p := ⟨f, by omega⟩
    have h5 : Int.gcd p q = q.natAbs := Int.gcd_eq_natAbs_right h4 
    omega
  · intro h
    subst h
    have h3 : r = 0 := by omega
    have : p = f := by omega
    subst this
    omega
end
end Pd

set_option maxHeartbeats 2000000
/-! PdV: fractions by any numerator and denominator: the one form is the same. -/
namespace Pd
open PySem PySem.Spec L2
theorem coprime_dvd {p q r : Int} (hg : Int.gcd p q = 1) (h : q ∣ p * r) : q ∣ r := by
  have h1 : q.natAbs ∣ p.natAbs * r.natAbs := by
    rw [← Int.natAbs_mul]
    exact Int.natAbs_dvd_natAbs.mpr h
  have h2 : Nat.Coprime q.natAbs p.natAbs := by
    have : Nat.gcd p.natAbs q.natAbs = 1 := hg
    rw [Nat.gcd_comm] at this
    exact this
  exact Int.natAbs_dvd_natAbs.mp (Nat.Coprime.dvd_of_dvd_mul_left h2 h1)
theorem fr_canon {N D N' D' : Int} (hD : D ≠ 0) (hD' : D' ≠ 0) (h : N * D' = N' * D) : frP N D = frP N' D' ∧ frQ N D = frQ N' D' := by
  have a1 := fr_cross (n := N) hD
  have a2 := fr_cross (n := N') hD'
  have b1 := frQ_pos (n := N) hD
  have b2 := frQ_pos (n := N') hD'
  have c1 := fr_gcd (n := N) hD
  have c2 := fr_gcd (n := N') hD'
  generalize frP N D = p at *
  generalize frQ N D = q at *
  generalize frP N' D' = p' at *
  generalize frQ N' D' = q' at *
  have k : p * q' = p' * q := by
    refine Int.eq_of_mul_eq_mul_left (Int.mul_ne_zero hD hD') ?_
    grind
  have d1 : q ∣ q' := coprime_dvd c1 ⟨p', by rw [k, Int.mul_comm]⟩
  have d2 : q' ∣ q := coprime_dvd c2 ⟨p, by rw [← k, Int.mul_comm]⟩
  have e : q = q' := Int.le_antisymm (Int.le_of_dvd b2 d1) (Int.le_of_dvd b1 d2)
  subst e
  exact ⟨Int.eq_of_mul_eq_mul_right (by omega) k, rfl⟩
theorem fr_same {c : Nat} {N D N' D' : Int} (hD : D ≠ 0) (hD' : D' ≠ 0) (h : N * D' = N' * D) : fr c N D = fr c N' D' := by
  obtain ⟨h1, h2⟩ := fr_canon hD hD' h
  show Dt.ins c [.int (frP N D), .int (frQ N D)] = _
  rw [h1, h2]
theorem fr_iff {N D n d : Int} (hD : D ≠ 0) : frP N D * d = n * frQ N D ↔ N * d = n * D := by
  have a1 := fr_cross (n := N) hD
  have b1 := frQ_pos (n := N) hD
  generalize frP N D = p at *
  generalize frQ N D = q at *
  constructor
  · intro h
    refine Int.eq_of_mul_eq_mul_left (show q ≠ 0 by omega) ?_
    grind
  · intro h
    refine Int.eq_of_mul_eq_mul_left hD ?_
    grind
section
variable {c e0 : Nat} {a b n d : Int} {k1 k2 k3 k4 : Nat} [h1 : Sm a k1] [h2 : Sm b k2] [h3 : Sm n k3] [h4 : Sm d k4]
theorem addF (hb : b ≠ 0) (hd : d ≠ 0) (l1 : k1 + k4 ≤ 100000000) (l2 : k3 + k2 ≤ 100000000) (l3 : k2 + k4 ≤ 9000) : fnD 2 0 (b_frAdd c e0) [fr c a b, fr c n d] = some (.ok (.fro (fr c (a * d + n * b) (b * d)))) := by
  have qb := frQ_pos (n := a) hb
  have qd := frQ_pos (n := n) hd
  have qb' : frQ a b ≠ 0 := by omega
  have qd' : frQ n d ≠ 0 := by omega
  rw [frAdd_run qb' qd' l1 l2 l3]
  rw [fr_same (Int.mul_ne_zero qb' qd') (Int.mul_ne_zero hb hd) (N' := a * d + n * b) (D' := b * d)]
  have c1 := fr_cross (n := a) hb
  have c2 := fr_cross (n := n) hd
  grind
theorem subF (hb : b ≠ 0) (hd : d ≠ 0) (l1 : k1 + k4 ≤ 100000000) (l2 : k3 + k2 ≤ 100000000) (l3 : k2 + k4 ≤ 9000) : fnD 2 0 (b_frSub c e0) [fr c a b, fr c n d] = some (.ok (.fro (fr c (a * d - n * b) (b * d)))) := by
  have qb := frQ_pos (n := a) hb
  have qd := frQ_pos (n := n) hd
  have qb' : frQ a b ≠ 0 := by omega
  have qd' : frQ n d ≠ 0 := by omega
  rw [frSub_run qb' qd' l1 l2 l3]
  rw [fr_same (Int.mul_ne_zero qb' qd') (Int.mul_ne_zero hb hd) (N' := a * d - n * b) (D' := b * d)]
  have c1 := fr_cross (n := a) hb
  have c2 := fr_cross (n := n) hd
  grind
theorem mulF (hb : b ≠ 0) (hd : d ≠ 0) (l1 : k1 + k3 ≤ 100000000) (l3 : k2 + k4 ≤ 9000) : fnD 2 0 (b_frMul c e0) [fr c a b, fr c n d] = some (.ok (.fro (fr c (a * n) (b * d)))) := by
  have qb := frQ_pos (n := a) hb
  have qd := frQ_pos (n := n) hd
  have qb' : frQ a b ≠ 0 := by omega
  have qd' : frQ n d ≠ 0 := by omega
  rw [frMul_run qb' qd' l1 l3]
  rw [fr_same (Int.mul_ne_zero qb' qd') (Int.mul_ne_zero hb hd) (N' := a * n) (D' := b * d)]
  have c1 := fr_cross (n := a) hb
  have c2 := fr_cross (n := n) hd
  grind
theorem negF (hb : b ≠ 0) (l3 : k2 ≤ 9000) : fnD 1 0 (b_frNeg c e0) [fr c a b] = some (.ok (.fro (fr c (-a) b))) := by
  have qb := frQ_pos (n := a) hb
  have qb' : frQ a b ≠ 0 := by omega
  rw [frNeg_run qb' l3]
  rw [fr_same qb' hb (N' := -a) (D' := b)]
  have c1 := fr_cross (n := a) hb
  grind
theorem lawIsF (hb : b ≠ 0) (l1 : k1 + k4 ≤ 100000000) (l2 : k3 + k2 ≤ 100000000) : fnD 3 0 (b_lawIs c) [fr c a b, .int n, .int d] = some (.ok (.fro (.bl (decide (a * d = n * b))))) := by
  rw [lawIs_run c (frQ_pos hb) (fr_gcd hb) l1 l2, decide_eq_decide.mpr (fr_iff hb)]
end
/-- the data of two lists of pairs -/
def frs (c : Nat) : List (Int × Int) → List Dt
  | [] => []
  | (a, b) :: r => fr c a b :: frs c r
/-- sums and products by steps -/
def sumN : List (Int × Int) → Int × Int → Int × Int
  | [], s => s
  | (a, b) :: r, s => sumN r (s.1 * b + a * s.2, s.2 * b)
def prodN : List (Int × Int) → Int × Int → Int × Int
  | [], s => s
  | (a, b) :: r, s => prodN r (s.1 * a, s.2 * b)
end Pd

set_option maxHeartbeats 2000000
/-! PdW: sums, products, rising products of fractions. -/
namespace Pd
open PySem PySem.Spec L2
theorem forD_step {gt : GT} {body : FS} {d : Dt} {ds : List Dt} {ρ ρ1 ρ2 : PEnv} (h : gt d ρ = some ρ1) (hb : body ρ1 = some (.nx ρ2)) : forD gt body (d :: ds) ρ = forD gt body ds ρ2 := by
  conv => lhs; unfold forD
  rw [h]
  simp only [hb]
theorem iSeq_lst {f : FE} {ρ : PEnv} {ds : List Dt} (h : f ρ = some (.ok (.fro (.lst ds)))) : iSeq f ρ = some (.ok ds) := by
  unfold iSeq
  rw [h]
  rfl
theorem iSeq_tup {f : FE} {ρ : PEnv} {ds : List Dt} (h : f ρ = some (.ok (.fro (.tup ds)))) : iSeq f ρ = some (.ok ds) := by
  unfold iSeq
  rw [h]
  rfl
theorem iSeq_own {f : FE} {ρ : PEnv} {ds : List Dt} (h : f ρ = some (.ok (.own ds))) : iSeq f ρ = some (.ok ds) := by
  unfold iSeq
  rw [h]
  rfl
theorem sFrz_own {i : Nat} {F : FS} {ρ : PEnv} {ds : List Dt} (h : ρ[i]? = some (some (.own ds))) : sFrz i F ρ = F (ρ.set i (some (.fro (.lst ds)))) := by
  unfold sFrz
  rw [h]
theorem sFrz_fro {i : Nat} {F : FS} {ρ : PEnv} {d : Dt} (h : ρ[i]? = some (some (.fro d))) : sFrz i F ρ = F ρ := by
  unfold sFrz
  rw [h]
theorem Sm.up {x : Int} {a b : Nat} (h : Sm x a) (l : a ≤ b) : Sm x b := ⟨Nat.lt_of_lt_of_le h.lt (Nat.pow_le_pow_right (by decide) l), Nat.lt_of_lt_of_le h.pos l⟩
noncomputable def b_sumOf (c e0 : Nat) : FS :=
  sSeq (sSet 1 (eCa 1 (fun ds => m_fr c e0 ((fun ds => ds ++ [(.int 1)]) ds)) (aCons (eC (.int 0)) aNil)))
  (sSeq (sFor (iSeq (eVar 0)) (gtName 2)
  (sSet 1 (e2 (gOwn gAdd sameC (tbl [(c, mfn 2 (fun ds => ds) (fnD 2 0 (b_frAdd c e0)))])) (eVar 1) (eVar 2))))
  (sRetV 1))
noncomputable def b_prodOf (c e0 : Nat) : FS :=
  sSeq (sSet 1 (eCa 1 (fun ds => m_fr c e0 ((fun ds => ds ++ [(.int 1)]) ds)) (aCons (eC (.int 1)) aNil)))
  (sSeq (sFor (iSeq (eVar 0)) (gtName 2)
  (sSet 1 (e2 (gOwn gMul sameC (tbl [(c, mfn 2 (fun ds => ds) (fnD 2 0 (b_frMul c e0)))])) (eVar 1) (eVar 2))))
  (sRetV 1))
/-- small pairs with denominators that are not 0 -/
def Prs (xs : List (Int × Int)) : Prop := ∀ q ∈ xs, Sm q.1 6 ∧ Sm q.2 6 ∧ q.2 ≠ 0
theorem one_make (c e0 : Nat) (n : Int) : m_fr c e0 [.int n, .int 1] = some (.ok (.fro (fr c n 1))) := by
  have : Sm (1 : Int) 1 := ⟨by decide, by decide⟩
  exact fr_make c e0 (by decide) (b := 1) (by decide)
theorem sum_loop (c e0 : Nat) (l : Option Cel) : ∀ (xs : List (Int × Int)) (s : Int × Int) (v : Option Cel) (m : Nat), Prs xs → Sm s.1 m → Sm s.2 m → s.2 ≠ 0 → m + 14 * xs.length ≤ 4000 →
    ∃ v', forD (gtName 2) (sSet 1 (e2 (gOwn gAdd sameC (tbl [(c, mfn 2 (fun ds => ds) (fnD 2 0 (b_frAdd c e0)))])) (eVar 1) (eVar 2))) (frs c xs) [l, cD (fr c s.1 s.2), v] = some (.nx [l, cD (fr c (sumN xs s).1 (sumN xs s).2), v']) ∧ (sumN xs s).2 ≠ 0 ∧ Sm (sumN xs s).1 (m + 14 * xs.length) ∧ Sm (sumN xs s).2 (m + 14 * xs.length)
  | [], s, v, m, _, h1, h2, h3, _ => ⟨v, rfl, h3, h1, h2⟩
  | (a, b) :: xs, s, v, m, hp, h1, h2, h3, hm => by
    obtain ⟨pa, pb, pb0⟩ := hp (a, b) List.mem_cons_self
    simp only at pa pb pb0
    have hl : ((a, b) :: xs).length = xs.length + 1 := rfl
    rw [hl] at hm
    have st : sSet 1 (e2 (gOwn gAdd sameC (tbl [(c, mfn 2 (fun ds => ds) (fnD 2 0 (b_frAdd c e0)))])) (eVar 1) (eVar 2)) [l, cD (fr c s.1 s.2), cD (fr c a b)] = some (.nx [l, cD (fr c (s.1 * b + a * s.2) (s.2 * b)), cD (fr c a b)]) := by
      rw [sSet_run (r := .fro (fr c (s.1 * b + a * s.2) (s.2 * b))) (by
        rw [e2_eq]
        simp only [eVar, List.getElem?_cons_succ, List.getElem?_cons_zero, bnd_ok]
        rw [gOwn_tbl (addF h3 pb0 (by omega) (by omega) (by omega))])]
      rfl
    have t1 : Sm (s.1 * b + a * s.2) (m + 14) := by
      have : Sm (s.1 * b + a * s.2) ((m + 6) + (6 + m) + 1) := inferInstance
      refine ⟨?_, by omega⟩
      have x1 : Sm (s.1 * b) (m + 6) := inferInstance
      have x2 : Sm (a * s.2) (6 + m) := inferInstance
      have y1 := x1.lt
      have y2 := x2.lt
      have z1 : (2 : Nat) ^ (m + 14) = 2 ^ (m + 6) * 256 := by rw [show m + 14 = (m + 6) + 8 by omega, Nat.pow_add]
      rw [show 6 + m = m + 6 by omega] at y2
      rw [z1]
      have := Int.natAbs_add_le (s.1 * b) (a * s.2)
      generalize (2 : Nat) ^ (m + 6) = A at *
      omega
    have t2 : Sm (s.2 * b) (m + 14) := Sm.up (a := m + 6) inferInstance (by omega)
    obtain ⟨v', w, w2, w3, w4⟩ := sum_loop c e0 l xs (s.1 * b + a * s.2, s.2 * b) (cD (fr c a b)) (m + 14) (fun q hq => hp q (List.mem_cons_of_mem _ hq)) t1 t2 (Int.mul_ne_zero h3 pb0) (by omega)
    refine ⟨v', ?_, w2, ?_, ?_⟩
    · show forD _ _ (fr c a b :: frs c xs) _ = _
      rw [forD_step (ρ1 := [l, cD (fr c s.1 s.2), cD (fr c a b)]) rfl st]
      exact w
    · rw [hl, show m + 14 * (xs.length + 1) = m + 14 + 14 * xs.length by omega]; exact w3
    · rw [hl, show m + 14 * (xs.length + 1) = m + 14 + 14 * xs.length by omega]; exact w4
theorem prod_loop (c e0 : Nat) (l : Option Cel) : ∀ (xs : List (Int × Int)) (s : Int × Int) (v : Option Cel) (m : Nat), Prs xs → Sm s.1 m → Sm s.2 m → s.2 ≠ 0 → m + 14 * xs.length ≤ 4000 →
    ∃ v', forD (gtName 2) (sSet 1 (e2 (gOwn gMul sameC (tbl [(c, mfn 2 (fun ds => ds) (fnD 2 0 (b_frMul c e0)))])) (eVar 1) (eVar 2))) (frs c xs) [l, cD (fr c s.1 s.2), v] = some (.nx [l, cD (fr c (prodN xs s).1 (prodN xs s).2), v']) ∧ (prodN xs s).2 ≠ 0 ∧ Sm (prodN xs s).1 (m + 14 * xs.length) ∧ Sm (prodN xs s).2 (m + 14 * xs.length)
  | [], s, v, m, _, h1, h2, h3, _ => ⟨v, rfl, h3, h1, h2⟩
  | (a, b) :: xs, s, v, m, hp, h1, h2, h3, hm => by
    obtain ⟨pa, pb, pb0⟩ := hp (a, b) List.mem_cons_self
    simp only at pa pb pb0
    have hl : ((a, b) :: xs).length = xs.length + 1 := rfl
    rw [hl] at hm
    have st : sSet 1 (e2 (gOwn gMul sameC (tbl [(c, mfn 2 (fun ds => ds) (fnD 2 0 (b_frMul c e0)))])) (eVar 1) (eVar 2)) [l, cD (fr c s.1 s.2), cD (fr c a b)] = some (.nx [l, cD (fr c (s.1 * a) (s.2 * b)), cD (fr c a b)]) := by
      rw [sSet_run (r := .fro (fr c (s.1 * a) (s.2 * b))) (by
        rw [e2_eq]
        simp only [eVar, List.getElem?_cons_succ, List.getElem?_cons_zero, bnd_ok]
        rw [gOwn_tbl (mulF h3 pb0 (by omega) (by omega))])]
      rfl
    have t1 : Sm (s.1 * a) (m + 14) := Sm.up (a := m + 6) inferInstance (by omega)
    have t2 : Sm (s.2 * b) (m + 14) := Sm.up (a := m + 6) inferInstance (by omega)
    obtain ⟨v', w, w2, w3, w4⟩ := prod_loop c e0 l xs (s.1 * a, s.2 * b) (cD (fr c a b)) (m + 14) (fun q hq => hp q (List.mem_cons_of_mem _ hq)) t1 t2 (Int.mul_ne_zero h3 pb0) (by omega)
    refine ⟨v', ?_, w2, ?_, ?_⟩
    · show forD _ _ (fr c a b :: frs c xs) _ = _
      rw [forD_step (ρ1 := [l, cD (fr c s.1 s.2), cD (fr c a b)]) rfl st]
      exact w
    · rw [hl, show m + 14 * (xs.length + 1) = m + 14 + 14 * xs.length by omega]; exact w3
    · rw [hl, show m + 14 * (xs.length + 1) = m + 14 + 14 * xs.length by omega]; exact w4
theorem sumOf_run (c e0 : Nat) {xs : List (Int × Int)} (hp : Prs xs) (hl : xs.length ≤ 200) :
    fnD 1 2 (b_sumOf c e0) [.lst (frs c xs)] = some (.ok (.fro (fr c (sumN xs (0, 1)).1 (sumN xs (0, 1)).2))) ∧ (sumN xs (0, 1)).2 ≠ 0 ∧ Sm (sumN xs (0, 1)).1 (1 + 14 * xs.length) ∧ Sm (sumN xs (0, 1)).2 (1 + 14 * xs.length) := by
  obtain ⟨v', w, w2, w3, w4⟩ := sum_loop c e0 (cD (.lst (frs c xs))) xs (0, 1) none 1 hp ⟨by decide, by decide⟩ ⟨by decide, by decide⟩ (by decide) (by omega)
  refine ⟨?_, w2, w3, w4⟩
  rw [fnD_run (np := 1) rfl]
  unfold b_sumOf
  show outR (sSeq _ _ [cD (.lst (frs c xs)), none, none]) = _
  rw [sSeq_nx (ρ' := [cD (.lst (frs c xs)), cD (fr c 0 1), none]) (by
    rw [sSet_run (r := .fro (fr c 0 1)) (by rw [eCa_run (ds := [.int 0]) (by simp)]; exact one_make c e0 0)]; rfl),
    sSeq_nx (ρ' := _) (by rw [for_run (iSeq_lst (ds := frs c xs) rfl)]; exact w)]
  rfl
theorem prodOf_run (c e0 : Nat) {xs : List (Int × Int)} (hp : Prs xs) (hl : xs.length ≤ 200) :
    fnD 1 2 (b_prodOf c e0) [.lst (frs c xs)] = some (.ok (.fro (fr c (prodN xs (1, 1)).1 (prodN xs (1, 1)).2))) ∧ (prodN xs (1, 1)).2 ≠ 0 ∧ Sm (prodN xs (1, 1)).1 (1 + 14 * xs.length) ∧ Sm (prodN xs (1, 1)).2 (1 + 14 * xs.length) := by
  obtain ⟨v', w, w2, w3, w4⟩ := prod_loop c e0 (cD (.lst (frs c xs))) xs (1, 1) none 1 hp ⟨by decide, by decide⟩ ⟨by decide, by decide⟩ (by decide) (by omega)
  refine ⟨?_, w2, w3, w4⟩
  rw [fnD_run (np := 1) rfl]
  unfold b_prodOf
  show outR (sSeq _ _ [cD (.lst (frs c xs)), none, none]) = _
  rw [sSeq_nx (ρ' := [cD (.lst (frs c xs)), cD (fr c 1 1), none]) (by
    rw [sSet_run (r := .fro (fr c 1 1)) (by rw [eCa_run (ds := [.int 1]) (by simp)]; exact one_make c e0 1)]; rfl),
    sSeq_nx (ρ' := _) (by rw [for_run (iSeq_lst (ds := frs c xs) rfl)]; exact w)]
  rfl
/-! ### steps from behind -/
theorem sumN_snoc : ∀ (xs : List (Int × Int)) (a b : Int) (s : Int × Int), sumN (xs ++ [(a, b)]) s = ((sumN xs s).1 * b + a * (sumN xs s).2, (sumN xs s).2 * b)
  | [], a, b, s => rfl
  | (x, y) :: xs, a, b, s => sumN_snoc xs a b _
theorem prodN_snoc : ∀ (xs : List (Int × Int)) (a b : Int) (s : Int × Int), prodN (xs ++ [(a, b)]) s = ((prodN xs s).1 * a, (prodN xs s).2 * b)
  | [], a, b, s => rfl
  | (x, y) :: xs, a, b, s => prodN_snoc xs a b _
theorem sum_prod_den : ∀ (xs : List (Int × Int)) (x y z : Int), (sumN xs (x, z)).2 = (prodN xs (y, z)).2
  | [], _, _, _ => rfl
  | (a, b) :: xs, x, y, z => sum_prod_den xs _ _ _
end Pd

set_option maxHeartbeats 2000000
/-! PdY: == of fractions, refusals. -/
namespace Pd
open PySem PySem.Spec L2
noncomputable def b_frEq (c : Nat) (ns : List String) : FS := sRet (eAnd (e1 (gIsi (ansC ns [(c, true)])) (eVar 1)) (eAnd (e2 gEqS (eNum c 0) (eNum c 1)) (e2 gEqS (eDen c 0) (eDen c 1))))
theorem fr_inj {a b n d : Int} (hb : b ≠ 0) (hd : d ≠ 0) : (frP a b = frP n d ∧ frQ a b = frQ n d) ↔ a * d = n * b := by
  constructor
  · rintro ⟨h1, h2⟩
    have c1 := fr_cross (n := a) hb
    have c2 := fr_cross (n := n) hd
    have q := frQ_pos (n := n) hd
    rw [h1, h2] at c1
    refine Int.eq_of_mul_eq_mul_left (show frQ n d ≠ 0 by omega) ?_
    grind
  · intro h
    exact fr_canon hb hd h
theorem eqF {c : Nat} {ns : List String} {a b n d : Int} (hb : b ≠ 0) (hd : d ≠ 0) : fnD 2 0 (b_frEq c ns) [fr c a b, fr c n d] = some (.ok (.fro (.bl (decide (a * d = n * b))))) := by
  rw [fnD_run (np := 2) rfl]
  unfold b_frEq
  show outR (sRet _ [cD (fr c a b), cD (fr c n d)]) = _
  have hi : gIsi (ansC ns [(c, true)]) (.fro (fr c n d)) = vB true := gIsi_C c _ (by simp [List.lookup])
  have n0 : eNum c 0 [cD (fr c a b), cD (fr c n d)] = some (.ok (.fro (.int (frP a b)))) := eNum_eq rfl
  have n1 : eNum c 1 [cD (fr c a b), cD (fr c n d)] = some (.ok (.fro (.int (frP n d)))) := eNum_eq rfl
  have d0 : eDen c 0 [cD (fr c a b), cD (fr c n d)] = some (.ok (.fro (.int (frQ a b)))) := eDen_eq rfl
  have d1 : eDen c 1 [cD (fr c a b), cD (fr c n d)] = some (.ok (.fro (.int (frQ n d)))) := eDen_eq rfl
  rw [sRet_fro (d := .bl (decide (a * d = n * b))) (by
    rw [eAnd_eq, e1_eq, eVar_fro _ (fr c n d) 1 rfl, bnd_ok, hi, bnd_ok, asB_eq, bnd_ok, if_pos rfl, eAnd_eq, e2_eq, n0, bnd_ok, n1, bnd_ok, gEqS_int, bnd_ok, asB_eq, bnd_ok, e2_eq, d0, bnd_ok, d1, bnd_ok, gEqS_int]
    have hx := fr_inj (a := a) (b := b) (n := n) (d := d) hb hd
    have hy : decide (a * d = n * b) = decide (frP a b = frP n d ∧ frQ a b = frQ n d) := decide_eq_decide.mpr hx.symm
    rw [hy]
    by_cases h1 : frP a b = frP n d
    · simp [h1]
    · simp [h1])]
  rfl
theorem gIsi_ty {m : String} {ns : List String} {cs : List (Nat × Bool)} {d : Dt} (ht : typD d = some (.ty m)) (hm : ns.contains m = true) : gIsi (ansC ns cs) (.fro d) = vB false := by
  unfold gIsi
  have h2 : typR (.fro d) = some (.ty m) := ht
  rw [h2]
  show (match (if ns.contains m then some false else none) with | some b => vB b | none => none) = _
  rw [hm]
  rfl
theorem eqOther {c : Nat} {ns : List String} {x d : Dt} {m : String} (ht : typD d = some (.ty m)) (hm : ns.contains m = true) : fnD 2 0 (b_frEq c ns) [x, d] = some (.ok (.fro (.bl false))) := by
  rw [fnD_run (np := 2) rfl]
  unfold b_frEq
  show outR (sRet _ [cD x, cD d]) = _
  rw [sRet_fro (d := .bl false) (by rw [eAnd_eq, e1_eq, eVar_fro _ d 1 rfl, bnd_ok, gIsi_ty ht hm, bnd_ok, asB_eq, bnd_ok, if_neg (by decide)])]
  rfl
theorem gOwnE {c : Nat} {ds : List Dt} {d : Dt} {ns : List String} {f : Fn} {r : Rs} (hk : eqKind ns c d = true) (h : f [.ins c ds, d] = some (.ok r)) : gOwn gEqS (eqKind ns) (tbl [(c, mfn 2 (fun ds => ds) f)]) (.fro (.ins c ds)) (.fro d) = some (.ok r) :=
  gOwn_ins c ds d (fn := mfn 2 (fun ds => ds) f) (tbl_one c _) hk (by rw [mfn_run]; exact h)
theorem eqKind_same {ns : List String} {c : Nat} {ds : List Dt} : eqKind ns c (.ins c ds) = true := by simp [eqKind, typD]
/-- a statement in a try that raises -/
theorem try_hit {i c : Nat} {hit res : Nat → Option Bool} {F : FS} {ρ ρ' : PEnv} {b : Bool} (h : F ρ = some (.xc c [] ρ')) (hl : i < ρ'.length) (h1 : hit c = some true) (h2 : res c = some b) : sTry i hit res F ρ = some (.rt (.fro (.bl b))) := by
  unfold sTry
  rw [h]
  dsimp only
  rw [if_pos ⟨rfl, hl⟩, h1]
  dsimp only
  rw [h2]
theorem sExpr_ex {f : FE} {ρ : PEnv} {c : Nat} {es : List Dt} (h : f ρ = some (.ex c es)) : sExpr f ρ = some (.xc c es ρ) := by
  rw [sExpr_eq, h]
  rfl
end Pd

set_option maxHeartbeats 2000000
/-! PdZ: over and power of fractions. -/
namespace Pd
open PySem PySem.Spec L2
noncomputable def b_frOver (c e0 : Nat) : FS :=
  sSeq (sIf (tB (e2 gEqS (eNum c 1) (eC (.int 0))))
  (sRaise e0)
  sNext)
  (sRet (eCa 2 (m_fr c e0) (aCons (e2 gMul (eNum c 0) (eDen c 1)) (aCons (e2 gMul (eDen c 0) (eNum c 1)) aNil))))
theorem overF {c e0 : Nat} {a b n d : Int} {k1 k2 k3 k4 : Nat} [h1 : Sm a k1] [h2 : Sm b k2] [h3 : Sm n k3] [h4 : Sm d k4] (hb : b ≠ 0) (hd : d ≠ 0) (hn : n ≠ 0) (l1 : k1 + k4 ≤ 100000000) (l3 : k2 + k3 ≤ 9000) :
    fnD 2 0 (b_frOver c e0) [fr c a b, fr c n d] = some (.ok (.fro (fr c (a * d) (b * n)))) := by
  have hp : frP n d ≠ 0 := fun z => hn ((frP_zero hd).mp z)
  have qb := frQ_pos (n := a) hb
  have qd := frQ_pos (n := n) hd
  rw [fnD_run (np := 2) rfl]
  unfold b_frOver
  show outR (sSeq _ _ [cD (fr c a b), cD (fr c n d)]) = _
  have n0 : eNum c 0 [cD (fr c a b), cD (fr c n d)] = some (.ok (.fro (.int (frP a b)))) := eNum_eq rfl
  have n1 : eNum c 1 [cD (fr c a b), cD (fr c n d)] = some (.ok (.fro (.int (frP n d)))) := eNum_eq rfl
  have d0 : eDen c 0 [cD (fr c a b), cD (fr c n d)] = some (.ok (.fro (.int (frQ a b)))) := eDen_eq rfl
  have d1 : eDen c 1 [cD (fr c a b), cD (fr c n d)] = some (.ok (.fro (.int (frQ n d)))) := eDen_eq rfl
  have g1 : gMul (.fro (.int (frP a b))) (.fro (.int (frQ n d))) = vI (frP a b * frQ n d) := gMul_sm l1
  have g2 : gMul (.fro (.int (frQ a b))) (.fro (.int (frP n d))) = vI (frQ a b * frP n d) := gMul_sm (show k2 + k3 ≤ 100000000 by omega)
  rw [sSeq_nx (ρ' := [cD (fr c a b), cD (fr c n d)]) (by
    rw [sIf_f (by rw [tB_eq, e2_eq, n1, bnd_ok, eC_eq, bnd_ok, gEqS_int, decide_eq_false hp, bnd_ok, asB_eq])]
    rfl)]
  rw [ret_make (c := c) (e0 := e0) (n := frP a b * frQ n d) (d := frQ a b * frP n d) (by rw [e2_eq, n0, bnd_ok, d1, bnd_ok, g1]) (by rw [e2_eq, d0, bnd_ok, n1, bnd_ok, g2]) (Int.mul_ne_zero (by omega) hp) l3]
  rw [fr_same (Int.mul_ne_zero (by omega) hp) (Int.mul_ne_zero hb hn) (N' := a * d) (D' := b * n)]
  have c1 := fr_cross (n := a) hb
  have c2 := fr_cross (n := n) hd
  grind
theorem over_zero {c e0 : Nat} {a b d : Int} (hd : d ≠ 0) : fnD 2 0 (b_frOver c e0) [fr c a b, fr c 0 d] = some (.ex e0 []) := by
  have hp : frP 0 d = 0 := (frP_zero hd).mpr rfl
  rw [fnD_run (np := 2) rfl]
  unfold b_frOver
  show outR (sSeq _ _ [cD (fr c a b), cD (fr c 0 d)]) = _
  have n1 : eNum c 1 [cD (fr c a b), cD (fr c 0 d)] = some (.ok (.fro (.int (frP 0 d)))) := eNum_eq rfl
  rw [sSeq_xc (c := e0) (es := []) (ρ' := [cD (fr c a b), cD (fr c 0 d)]) (by
    rw [sIf_t (by rw [tB_eq, e2_eq, n1, bnd_ok, eC_eq, bnd_ok, gEqS_int, decide_eq_true hp, bnd_ok, asB_eq])]
    rfl)]
  rfl
noncomputable def b_frPow (c e0 : Nat) : FS :=
  sSeq (sSet 2 (eNum c 0))
  (sSeq (sSet 3 (eDen c 0))
  (sSeq (sIf (tB (e2 gLt (eVar 1) (eC (.int 0))))
  (sSeq (sIf (tB (e2 gEqS (eVar 2) (eC (.int 0))))
  (sRaise e0)
  sNext)
  (sSeq (sSet 2 (eDen c 0))
  (sSet 3 (eNum c 0))))
  sNext)
  (sSeq (sSet 4 (eC (.int 1)))
  (sSeq (sSet 5 (eC (.int 1)))
  (sSeq (sFor (iRng1 (e1 gAbs (eVar 1))) (gtName 6)
  (sSeq (sSet 4 (e2 gMul (eVar 4) (eVar 2)))
  (sSet 5 (e2 gMul (eVar 5) (eVar 3)))))
  (sRet (eCa 2 (m_fr c e0) (aCons (eVar 4) (aCons (eVar 5) aNil)))))))))
theorem Sm.pow {x : Int} {a : Nat} (h : Sm x a) : ∀ n : Nat, Sm (x ^ n) (a * n + 1)
  | 0 => ⟨by rw [Int.pow_zero, Nat.mul_zero]; decide, by omega⟩
  | n + 1 => by
    have ih := Sm.pow h n
    rw [Int.pow_succ]
    exact Sm.up (a := a * n + 1 + a) inferInstance (by rw [Nat.mul_succ]; omega)
theorem powLoop (x : Option Cel) (v1 : Option Cel) (u w : Int) {k : Nat} (hu : Sm u k) (hw : Sm w k) (hk : k ≤ 100) {n : Nat} (hn : n ≤ 80) (v6 : Option Cel) :
    ∃ v', forD (gtName 6) (sSeq (sSet 4 (e2 gMul (eVar 4) (eVar 2))) (sSet 5 (e2 gMul (eVar 5) (eVar 3)))) (intsFrom 0 n) [x, v1, cI u, cI w, cI 1, cI 1, v6] = some (.nx [x, v1, cI u, cI w, cI (u ^ n), cI (w ^ n), v']) := by
  obtain ⟨ρ', q, v, rfl⟩ := for_rng (v := 6) (body := sSeq (sSet 4 (e2 gMul (eVar 4) (eVar 2))) (sSet 5 (e2 gMul (eVar 5) (eVar 3)))) (a := 0) (n := n) (ρ := [x, v1, cI u, cI w, cI 1, cI 1, v6])
    (fun i ρ => ∃ v, ρ = [x, v1, cI u, cI w, cI (u ^ i), cI (w ^ i), v]) ⟨v6, by rw [Int.pow_zero, Int.pow_zero]⟩ (fun i ρ hi ⟨v, q⟩ => by
      subst q
      have s1 := hu.pow i
      have s2 := hw.pow i
      have b1 : k * i ≤ 100 * 80 := Nat.mul_le_mul hk (by omega)
      have g1 : gMul (.fro (.int (u ^ i))) (.fro (.int u)) = vI (u ^ i * u) := gMul_sm (by omega)
      have g2 : gMul (.fro (.int (w ^ i))) (.fro (.int w)) = vI (w ^ i * w) := gMul_sm (by omega)
      refine ⟨[x, v1, cI u, cI w, cI (u ^ (i + 1)), cI (w ^ (i + 1)), cI (0 + i)], .inl ?_, _, rfl⟩
      show sSeq _ _ [x, v1, cI u, cI w, cI (u ^ i), cI (w ^ i), cI (0 + i)] = _
      rw [sSeq_nx (ρ' := [x, v1, cI u, cI w, cI (u ^ (i + 1)), cI (w ^ i), cI (0 + i)]) (by
        rw [sSet_run (r := .fro (.int (u ^ (i + 1)))) (by simp only [e2_eq, eVar, List.getElem?_cons_succ, List.getElem?_cons_zero, bnd_ok, g1, Int.pow_succ])]; rfl),
        sSet_run (r := .fro (.int (w ^ (i + 1)))) (by simp only [e2_eq, eVar, List.getElem?_cons_succ, List.getElem?_cons_zero, bnd_ok, g2, Int.pow_succ])]
      rfl)
  exact ⟨v, q⟩
theorem powF {c e0 : Nat} {a b e : Int} {k : Nat} [h1 : Sm a k] [h2 : Sm b k] (hk : k ≤ 100) (hb : b ≠ 0) (he : e.natAbs ≤ 80) (hz : ¬ (e < 0 ∧ a = 0)) :
    fnD 2 5 (b_frPow c e0) [fr c a b, .int e] = some (.ok (.fro (fr c (if e < 0 then b ^ e.natAbs else a ^ e.natAbs) (if e < 0 then a ^ e.natAbs else b ^ e.natAbs)))) := by
  have qb := frQ_pos (n := a) hb
  have c1 := fr_cross (n := a) hb
  rw [fnD_run (np := 2) rfl]
  unfold b_frPow
  show outR (sSeq _ _ [cD (fr c a b), cI e, none, none, none, none, none]) = _
  have n0 : ∀ v2 v3 v4 v5 v6, eNum c 0 [cD (fr c a b), cI e, v2, v3, v4, v5, v6] = some (.ok (.fro (.int (frP a b)))) := fun _ _ _ _ _ => eNum_eq rfl
  have d0 : ∀ v2 v3 v4 v5 v6, eDen c 0 [cD (fr c a b), cI e, v2, v3, v4, v5, v6] = some (.ok (.fro (.int (frQ a b)))) := fun _ _ _ _ _ => eDen_eq rfl
  have re : rOk (e.natAbs : Int) = true := rOk_of (by omega) (by omega)
  have kb : k * e.natAbs ≤ 100 * 80 := Nat.mul_le_mul hk he
  rw [sSeq_nx (ρ' := [cD (fr c a b), cI e, cI (frP a b), none, none, none, none]) (by rw [sSet_run (n0 _ _ _ _ _)]; rfl),
    sSeq_nx (ρ' := [cD (fr c a b), cI e, cI (frP a b), cI (frQ a b), none, none, none]) (by rw [sSet_run (d0 _ _ _ _ _)]; rfl)]
  have fin : ∀ (u w : Int), Sm u k → Sm w k → w ≠ 0 → outR (sSeq (sSet 4 (eC (.int 1))) (sSeq (sSet 5 (eC (.int 1))) (sSeq (sFor (iRng1 (e1 gAbs (eVar 1))) (gtName 6) (sSeq (sSet 4 (e2 gMul (eVar 4) (eVar 2))) (sSet 5 (e2 gMul (eVar 5) (eVar 3)))))
      (sRet (eCa 2 (m_fr c e0) (aCons (eVar 4) (aCons (eVar 5) aNil)))))) [cD (fr c a b), cI e, cI u, cI w, none, none, none]) = some (.ok (.fro (fr c (u ^ e.natAbs) (w ^ e.natAbs)))) := fun u w hu hw h0 => by
    rw [sSeq_nx (ρ' := [cD (fr c a b), cI e, cI u, cI w, cI 1, none, none]) (by simp), sSeq_nx (ρ' := [cD (fr c a b), cI e, cI u, cI w, cI 1, cI 1, none]) (by simp)]
    obtain ⟨v', q⟩ := powLoop (cD (fr c a b)) (cI e) u w hu hw hk he none
    rw [sSeq_nx (ρ' := _) (by rw [for_run (rng1_run (n := (e.natAbs : Int)) (by simp only [e1_eq, eVar, List.getElem?_cons_succ, List.getElem?_cons_zero, bnd_ok, gAbs_eq, vI, abs_eq]) re), Int.toNat_natCast]; exact q)]
    have s2 := hw.pow e.natAbs
    rw [ret_make (c := c) (e0 := e0) (n := u ^ e.natAbs) (d := w ^ e.natAbs) rfl rfl (Int.pow_ne_zero h0) (by omega)]
  by_cases h : e < 0
  · have ha : a ≠ 0 := fun z => hz ⟨h, z⟩
    have hp : frP a b ≠ 0 := fun z => ha ((frP_zero hb).mp z)
    rw [sSeq_nx (ρ' := [cD (fr c a b), cI e, cI (frQ a b), cI (frP a b), none, none, none]) (by
      rw [sIf_t (by simp [eVar, h]), sSeq_nx (ρ' := [cD (fr c a b), cI e, cI (frP a b), cI (frQ a b), none, none, none]) (by simp [eVar, hp]),
        sSeq_nx (ρ' := [cD (fr c a b), cI e, cI (frQ a b), cI (frQ a b), none, none, none]) (by rw [sSet_run (d0 _ _ _ _ _)]; rfl), sSet_run (n0 _ _ _ _ _)]
      rfl), fin _ _ inferInstance inferInstance hp, if_pos h, if_pos h]
    rw [fr_same (Int.pow_ne_zero hp) (Int.pow_ne_zero ha) (N' := b ^ e.natAbs) (D' := a ^ e.natAbs)]
    rw [← Int.mul_pow, ← Int.mul_pow, show frQ a b * a = b * frP a b by grind]
  · rw [sSeq_nx (ρ' := [cD (fr c a b), cI e, cI (frP a b), cI (frQ a b), none, none, none]) (by simp [eVar, h]), fin _ _ inferInstance inferInstance (by omega), if_neg h, if_neg h]
    rw [fr_same (Int.pow_ne_zero (by omega)) (Int.pow_ne_zero hb) (N' := a ^ e.natAbs) (D' := b ^ e.natAbs)]
    rw [← Int.mul_pow, ← Int.mul_pow, c1]
theorem pow_zero_neg {c e0 : Nat} {b e : Int} (hb : b ≠ 0) (h : e < 0) : fnD 2 5 (b_frPow c e0) [fr c 0 b, .int e] = some (.ex e0 []) := by
  have hp : frP 0 b = 0 := (frP_zero hb).mpr rfl
  rw [fnD_run (np := 2) rfl]
  unfold b_frPow
  show outR (sSeq _ _ [cD (fr c 0 b), cI e, none, none, none, none, none]) = _
  have n0 : ∀ v2 v3 v4 v5 v6, eNum c 0 [cD (fr c 0 b), cI e, v2, v3, v4, v5, v6] = some (.ok (.fro (.int (frP 0 b)))) := fun _ _ _ _ _ => eNum_eq rfl
  have d0 : ∀ v2 v3 v4 v5 v6, eDen c 0 [cD (fr c 0 b), cI e, v2, v3, v4, v5, v6] = some (.ok (.fro (.int (frQ 0 b)))) := fun _ _ _ _ _ => eDen_eq rfl
  rw [sSeq_nx (ρ' := [cD (fr c 0 b), cI e, cI (frP 0 b), none, none, none, none]) (by rw [sSet_run (n0 _ _ _ _ _)]; rfl),
    sSeq_nx (ρ' := [cD (fr c 0 b), cI e, cI (frP 0 b), cI (frQ 0 b), none, none, none]) (by rw [sSet_run (d0 _ _ _ _ _)]; rfl)]
  rw [sSeq_xc (c := e0) (es := []) (ρ' := [cD (fr c 0 b), cI e, cI (frP 0 b), cI (frQ 0 b), none, none, none]) (by
    rw [sIf_t (by simp [eVar, h]), sSeq_xc (c := e0) (es := []) (ρ' := [cD (fr c 0 b), cI e, cI (frP 0 b), cI (frQ 0 b), none, none, none]) (by
      rw [sIf_t (by simp [eVar, hp])]
      rfl)])]
  rfl
noncomputable def b_pow : FS :=
  sSeq (sSet 2 (eC (.int 1)))
  (sSeq (sFor (iRng1 (eVar 1)) (gtName 3)
  (sSet 2 (e2 gMul (eVar 2) (eVar 0))))
  (sRetV 2))
theorem pow_run {u : Int} {k : Nat} (hu : Sm u k) (hk : k ≤ 100) {n : Nat} (hn : n ≤ 80) : fnD 2 2 b_pow [.int u, .int n] = some (.ok (.fro (.int (u ^ n)))) := by
  rw [fnD_run (np := 2) rfl]
  unfold b_pow
  show outR (sSeq _ _ [cI u, cI n, none, none]) = _
  rw [sSeq_nx (ρ' := [cI u, cI n, cI 1, none]) (by simp)]
  have re : rOk (n : Int) = true := rOk_of (by omega) (by omega)
  obtain ⟨ρ', q, v, rfl⟩ := for_rng (v := 3) (body := sSet 2 (e2 gMul (eVar 2) (eVar 0))) (a := 0) (n := n) (ρ := [cI u, cI n, cI 1, none])
    (fun i ρ => ∃ v, ρ = [cI u, cI n, cI (u ^ i), v]) ⟨none, by rw [Int.pow_zero]⟩ (fun i ρ hi ⟨v, q⟩ => by
      subst q
      have s1 := hu.pow i
      have b1 : k * i ≤ 100 * 80 := Nat.mul_le_mul hk (by omega)
      have g1 : gMul (.fro (.int (u ^ i))) (.fro (.int u)) = vI (u ^ i * u) := gMul_sm (by omega)
      refine ⟨[cI u, cI n, cI (u ^ (i + 1)), cI (0 + i)], .inl ?_, _, rfl⟩
      show sSet 2 _ [cI u, cI n, cI (u ^ i), cI (0 + i)] = _
      rw [sSet_run (r := .fro (.int (u ^ (i + 1)))) (by simp only [e2_eq, eVar, List.getElem?_cons_succ, List.getElem?_cons_zero, bnd_ok, g1, Int.pow_succ])]
      rfl)
  rw [sSeq_nx (ρ' := _) (by rw [for_run (rng1_run (n := (n : Int)) (by simp [eVar]) re), Int.toNat_natCast]; exact q)]
  rfl
end Pd

set_option maxHeartbeats 2000000
/-! PpA: lists of whole numbers as polynomials: coefficients, zeros at the end, contents, the one form. -/
namespace Pd
open PySem PySem.Spec L2
abbrev iL (xs : List Int) : List Dt := xs.map Dt.int
def co (xs : List Int) (k : Nat) : Int := xs.getD k 0
theorem co_nil (k : Nat) : co [] k = 0 := by simp [co]
theorem co_zero (a : Int) (xs : List Int) : co (a :: xs) 0 = a := rfl
theorem co_succ (a : Int) (xs : List Int) (k : Nat) : co (a :: xs) (k + 1) = co xs k := rfl
theorem co_lt {xs : List Int} {k : Nat} (h : k < xs.length) : xs[k]? = some (co xs k) := by
  unfold co
  rw [List.getD_eq_getElem?_getD, List.getElem?_eq_getElem h]
  rfl
theorem co_ge {xs : List Int} {k : Nat} (h : xs.length ≤ k) : co xs k = 0 := by
  unfold co
  rw [List.getD_eq_getElem?_getD, List.getElem?_eq_none h]
  rfl
theorem co_map (f : Int → Int) (hf : f 0 = 0) (xs : List Int) (k : Nat) : co (xs.map f) k = f (co xs k) := by
  by_cases h : k < xs.length
  · have h1 := co_lt (xs := xs.map f) (k := k) (by simpa using h)
    rw [List.getElem?_map, co_lt h] at h1
    exact (Option.some.inj h1).symm
  · rw [co_ge (by simpa using h), co_ge (by omega), hf]
theorem co_take (xs : List Int) (n k : Nat) : co (xs.take n) k = if k < n then co xs k else 0 := by
  unfold co
  rw [List.getD_eq_getElem?_getD, List.getD_eq_getElem?_getD, List.getElem?_take]
  split <;> rfl
theorem co_ext {xs ys : List Int} (hl : xs.length = ys.length) (h : ∀ k, co xs k = co ys k) : xs = ys := by
  apply List.ext_getElem? 
  intro k
  by_cases hk : k < xs.length
  · rw [co_lt hk, co_lt (by omega), h k]
  · rw [List.getElem?_eq_none (by omega), List.getElem?_eq_none (by omega)]
theorem atCo {xs : List Int} {k : Nat} (h : k < xs.length) : atI (iL xs) (k : Int) = some (.int (co xs k)) := atI_nat (by omega) (by
  rw [Int.toNat_natCast, List.getElem?_map, co_lt h]
  rfl)
/-! ### zeros at the end -/
def tsz : List Int → Nat
  | [] => 0
  | a :: xs => if tsz xs = 0 then (if a = 0 then 0 else 1) else tsz xs + 1
theorem tsz_le : ∀ xs : List Int, tsz xs ≤ xs.length
  | [] => Nat.le_refl _
  | a :: xs => by
    have := tsz_le xs
    unfold tsz
    rw [List.length_cons]
    split
    · split <;> omega
    · omega
theorem tsz_zero : ∀ (xs : List Int) (k : Nat), tsz xs ≤ k → co xs k = 0
  | [], k, _ => co_nil k
  | a :: xs, k, h => by
    unfold tsz at h
    cases k with
    | zero =>
      split at h
      · split at h
        · assumption
        · omega
      · omega
    | succ k =>
      rw [co_succ]
      refine tsz_zero xs k ?_
      split at h <;> omega
theorem tsz_last : ∀ (xs : List Int), tsz xs ≠ 0 → co xs (tsz xs - 1) ≠ 0
  | [], h => absurd rfl h
  | a :: xs, h => by
    unfold tsz at h ⊢
    by_cases z : tsz xs = 0
    · rw [if_pos z] at h ⊢
      by_cases ha : a = 0
      · rw [if_pos ha] at h; exact absurd rfl h
      · rw [if_neg ha]
        exact ha
    · rw [if_neg z]
      have := tsz_last xs z
      rw [show tsz xs + 1 - 1 = (tsz xs - 1) + 1 by omega, co_succ]
      exact this
theorem tsz_eq {xs : List Int} {n : Nat} (h1 : ∀ k, n ≤ k → co xs k = 0) (h2 : n ≠ 0 → co xs (n - 1) ≠ 0) : tsz xs = n := by
  rcases Nat.lt_trichotomy (tsz xs) n with h | h | h
  · exact absurd (tsz_zero xs (n - 1) (by omega)) (h2 (by omega))
  · exact h
  · exact absurd (h1 (tsz xs - 1) (by omega)) (tsz_last xs (by omega))
def trim (xs : List Int) : List Int := xs.take (tsz xs)
theorem co_trim (xs : List Int) (k : Nat) : co (trim xs) k = co xs k := by
  unfold trim
  rw [co_take]
  split
  · rfl
  · exact (tsz_zero xs k (by omega)).symm
theorem trim_len (xs : List Int) : (trim xs).length = tsz xs := by
  unfold trim
  rw [List.length_take]
  have := tsz_le xs
  omega
/-! ### contents -/
def cont (xs : List Int) : Nat := xs.foldl (fun g x => Int.gcd g x) 0
theorem foldl_gcd : ∀ (xs : List Int) (g : Nat), xs.foldl (fun g x => Int.gcd g x) g = Nat.gcd g (cont xs)
  | [], g => by simp [cont]
  | x :: xs, g => by
    have h1 := foldl_gcd xs (Int.gcd g x)
    have h2 := foldl_gcd xs (Int.gcd (0 : Nat) x)
    unfold cont
    simp only [List.foldl_cons]
    rw [h1, h2]
    show Nat.gcd (Nat.gcd g x.natAbs) (cont xs) = Nat.gcd g (Nat.gcd (Nat.gcd 0 x.natAbs) (cont xs))
    rw [Nat.gcd_zero_left, Nat.gcd_assoc]
theorem cont_cons (x : Int) (xs : List Int) : cont (x :: xs) = Nat.gcd x.natAbs (cont xs) := by
  have := foldl_gcd xs (Int.gcd (0 : Nat) x)
  unfold cont at *
  rw [List.foldl_cons, this]
  show Nat.gcd (Nat.gcd 0 x.natAbs) _ = _
  rw [Nat.gcd_zero_left]
theorem cont_dvd : ∀ {xs : List Int} {x : Int}, x ∈ xs → (cont xs : Int) ∣ x
  | y :: xs, x, h => by
    rw [cont_cons]
    rcases List.mem_cons.mp h with e | e
    · subst e
      exact Int.ofNat_dvd_left.mpr (Nat.gcd_dvd_left _ _)
    · exact Int.dvd_trans (Int.natCast_dvd_natCast.mpr (Nat.gcd_dvd_right _ _)) (cont_dvd e)
theorem dvd_cont : ∀ {xs : List Int} {m : Nat}, (∀ x ∈ xs, (m : Int) ∣ x) → m ∣ cont xs
  | [], m, _ => Nat.dvd_zero m
  | x :: xs, m, h => by
    rw [cont_cons]
    exact Nat.dvd_gcd (Int.ofNat_dvd_left.mp (h x List.mem_cons_self)) (dvd_cont fun y hy => h y (List.mem_cons_of_mem _ hy))
theorem cont_mul : ∀ (xs : List Int) (s : Int), cont (xs.map (· * s)) = cont xs * s.natAbs
  | [], s => by simp [cont]
  | x :: xs, s => by
    rw [List.map_cons, cont_cons, cont_cons, cont_mul xs s, Int.natAbs_mul, Nat.gcd_mul_right]
theorem dvd_cont_mul {q m : Int} : ∀ {ys : List Int}, (∀ y ∈ ys, q ∣ y * m) → q.natAbs ∣ cont ys * m.natAbs
  | [], _ => by simp [cont]
  | y :: ys, h => by
    rw [cont_cons, ← Nat.gcd_mul_right]
    refine Nat.dvd_gcd ?_ (dvd_cont_mul fun z hz => h z (List.mem_cons_of_mem _ hz))
    rw [← Int.natAbs_mul]
    exact Int.natAbs_dvd_natAbs.mpr (h y List.mem_cons_self)
/-! ### the one form -/
def plS (xs : List Int) (d : Int) : Int := if d < 0 then -(Nat.gcd (cont (trim xs)) d.natAbs : Int) else (Nat.gcd (cont (trim xs)) d.natAbs : Int)
def plC (xs : List Int) (d : Int) : List Int := (trim xs).map fun x => x.fdiv (plS xs d)
def plD (xs : List Int) (d : Int) : Int := d.fdiv (plS xs d)
section
variable {xs : List Int} {d : Int}
theorem plG_pos (hd : d ≠ 0) : 0 < Nat.gcd (cont (trim xs)) d.natAbs := Nat.gcd_pos_of_pos_right _ (Int.natAbs_pos.mpr hd)
theorem plS_ne (hd : d ≠ 0) : plS xs d ≠ 0 := by
  have := plG_pos (xs := xs) hd
  unfold plS
  split <;> omega
theorem plS_abs : (plS xs d).natAbs = Nat.gcd (cont (trim xs)) d.natAbs := by
  unfold plS
  split <;> omega
theorem plS_dvd_d : plS xs d ∣ d := by
  rw [← Int.natAbs_dvd, plS_abs]
  exact Int.ofNat_dvd_left.mpr (Nat.gcd_dvd_right _ _)
theorem plS_dvd {x : Int} (h : x ∈ trim xs) : plS xs d ∣ x := by
  rw [← Int.natAbs_dvd, plS_abs]
  exact Int.dvd_trans (Int.natCast_dvd_natCast.mpr (Nat.gcd_dvd_left _ _)) (cont_dvd h)
theorem fdiv_mul_of_dvd {a s : Int} (hs : s ≠ 0) (h : s ∣ a) : a.fdiv s * s = a := by
  obtain ⟨k, rfl⟩ := h
  rw [Int.mul_comm s k, Int.mul_fdiv_cancel _ hs]
theorem plD_mul (hd : d ≠ 0) : plD xs d * plS xs d = d := fdiv_mul_of_dvd (plS_ne hd) plS_dvd_d
theorem plD_pos (hd : d ≠ 0) : 0 < plD xs d := by
  have h := plD_mul (xs := xs) hd
  have g := plG_pos (xs := xs) hd
  rcases Int.lt_or_gt_of_ne hd with h0 | h0
  · have hs : plS xs d < 0 := by unfold plS; rw [if_pos h0]; omega
    rcases Int.lt_trichotomy (plD xs d) 0 with q | q | q
    · have := Int.mul_pos_of_neg_of_neg q hs
      omega
    · rw [q, Int.zero_mul] at h; omega
    · exact q
  · have hs : 0 < plS xs d := by unfold plS; rw [if_neg (by omega)]; omega
    rcases Int.lt_trichotomy (plD xs d) 0 with q | q | q
    · have := Int.mul_neg_of_neg_of_pos q hs
      omega
    · rw [q, Int.zero_mul] at h; omega
    · exact q
theorem plC_len : (plC xs d).length = tsz xs := by unfold plC; rw [List.length_map, trim_len]
theorem plC_mul (hd : d ≠ 0) (k : Nat) : co (plC xs d) k * plS xs d = co xs k := by
  unfold plC
  rw [co_map (fun x => x.fdiv (plS xs d)) (by simp), ← co_trim xs k]
  by_cases h : k < (trim xs).length
  · exact fdiv_mul_of_dvd (plS_ne hd) (plS_dvd (List.mem_of_getElem? (co_lt h)))
  · rw [co_ge (by omega)]
    simp
theorem pl_cross (hd : d ≠ 0) (k : Nat) : co (plC xs d) k * d = co xs k * plD xs d := by
  have h1 := plC_mul (xs := xs) hd k
  have h2 := plD_mul (xs := xs) hd
  generalize plS xs d = s at *
  generalize plD xs d = q at *
  generalize co (plC xs d) k = y at *
  grind
theorem pl_gcd (hd : d ≠ 0) : Nat.gcd (cont (plC xs d)) (plD xs d).natAbs = 1 := by
  have h1 : (plC xs d).map (· * plS xs d) = trim xs := by
    unfold plC
    rw [List.map_map]
    conv => rhs; rw [← List.map_id (trim xs)]
    refine List.map_congr_left fun x hx => ?_
    exact fdiv_mul_of_dvd (plS_ne hd) (plS_dvd hx)
  have h2 : cont (plC xs d) * (plS xs d).natAbs = cont (trim xs) := by rw [← cont_mul, h1]
  have h3 : (plD xs d).natAbs * (plS xs d).natAbs = d.natAbs := by rw [← Int.natAbs_mul, plD_mul hd]
  have h4 := Nat.gcd_mul_right (cont (plC xs d)) (plS xs d).natAbs (plD xs d).natAbs
  rw [h2, h3, plS_abs] at h4
  have g := plG_pos (xs := xs) hd
  exact Nat.eq_of_mul_eq_mul_right g (by omega)
theorem plC_last (hd : d ≠ 0) (h : plC xs d ≠ []) : co (plC xs d) ((plC xs d).length - 1) ≠ 0 := by
  have hl := plC_len (xs := xs) (d := d)
  have hn : tsz xs ≠ 0 := fun z => h (List.length_eq_zero_iff.mp (by rw [hl, z]))
  have := tsz_last xs hn
  rw [hl]
  intro z
  have m := plC_mul (xs := xs) hd (tsz xs - 1)
  rw [z, Int.zero_mul] at m
  exact this m.symm
end
theorem pl_canon {xs xs' : List Int} {d d' : Int} (hd : d ≠ 0) (hd' : d' ≠ 0) (h : ∀ k, co xs k * d' = co xs' k * d) : plC xs d = plC xs' d' ∧ plD xs d = plD xs' d' := by
  have hz : ∀ k, co xs k = 0 ↔ co xs' k = 0 := fun k => by
    constructor
    · intro z
      have := h k
      rw [z, Int.zero_mul] at this
      exact (Int.mul_eq_zero.mp this.symm).resolve_right hd
    · intro z
      have := h k
      rw [z, Int.zero_mul] at this
      exact (Int.mul_eq_zero.mp this).resolve_right hd'
  have ht : tsz xs = tsz xs' := (tsz_eq (xs := xs') (n := tsz xs) (fun k hk => (hz k).mp (tsz_zero xs k hk)) (fun hn z => tsz_last xs hn ((hz _).mpr z))).symm
  have a1 := fun k => pl_cross (xs := xs) hd k
  have a2 := fun k => pl_cross (xs := xs') hd' k
  have b1 := plD_pos (xs := xs) hd
  have b2 := plD_pos (xs := xs') hd'
  have c1 := pl_gcd (xs := xs) hd
  have c2 := pl_gcd (xs := xs') hd'
  have l1 := plC_len (xs := xs) (d := d)
  have l2 := plC_len (xs := xs') (d := d')
  generalize plC xs d = ys at *
  generalize plC xs' d' = ys' at *
  generalize plD xs d = q at *
  generalize plD xs' d' = q' at *
  have kk : ∀ k, co ys k * q' = co ys' k * q := fun k => by
    refine Int.eq_of_mul_eq_mul_left (Int.mul_ne_zero hd hd') ?_
    have h1 := a1 k
    have h2 := a2 k
    have h3 := h k
    generalize co ys k = y at *
    generalize co ys' k = y' at *
    generalize co xs k = x at *
    generalize co xs' k = x' at *
    grind
  have dv : ∀ {ys ys' : List Int} {q q' : Int}, (∀ k, co ys k * q' = co ys' k * q) → Nat.gcd (cont ys) q.natAbs = 1 → q ∣ q' := fun {ys ys' q q'} hk hg => by
    have h1 : q.natAbs ∣ cont ys * q'.natAbs := dvd_cont_mul fun y hy => by
      obtain ⟨k, hlt, e⟩ := List.mem_iff_getElem.mp hy
      have h2 := co_lt hlt
      rw [List.getElem?_eq_getElem hlt] at h2
      have h3 : y = co ys k := by rw [← e]; exact Option.some.inj h2
      rw [h3, hk k]
      exact Int.dvd_mul_left _ _
    have h2 : Nat.Coprime q.natAbs (cont ys) := by
      rw [Nat.gcd_comm] at hg
      exact hg
    exact Int.natAbs_dvd_natAbs.mp (Nat.Coprime.dvd_of_dvd_mul_left h2 h1)
  have d1 : q ∣ q' := dv kk c1
  have d2 : q' ∣ q := dv (fun k => (kk k).symm) c2
  have e : q = q' := Int.le_antisymm (Int.le_of_dvd b2 d1) (Int.le_of_dvd b1 d2)
  subst e
  exact ⟨co_ext (by omega) fun k => Int.eq_of_mul_eq_mul_right (by omega) (kk k), rfl⟩
/-- the data of a polynomial: any numbers over any denominator -/
abbrev pl (c : Nat) (xs : List Int) (d : Int) : Dt := .ins c [.tup (iL (plC xs d)), .int (plD xs d)]
theorem pl_same {c : Nat} {xs xs' : List Int} {d d' : Int} (hd : d ≠ 0) (hd' : d' ≠ 0) (h : ∀ k, co xs k * d' = co xs' k * d) : pl c xs d = pl c xs' d' := by
  obtain ⟨h1, h2⟩ := pl_canon hd hd' h
  show Dt.ins c [.tup (iL (plC xs d)), .int (plD xs d)] = _
  rw [h1, h2]
end Pd

set_option maxHeartbeats 2000000
/-! PpB: polynomials made; the law's test of a polynomial. -/
namespace Pd
open PySem PySem.Spec L2
theorem lcD_map {v : Nat} {elt : FE} {ρ : PEnv} : ∀ {ds rs : List Dt}, ds.length = rs.length → (∀ (i : Nat) (d r : Dt), ds[i]? = some d → rs[i]? = some r → elt (ρ.set v (cD d)) = some (.ok (.fro r))) → lcD (gtName v) tTrue elt ρ ds = some rs
  | [], [], _, _ => rfl
  | [], _ :: _, h, _ => by cases h
  | _ :: _, [], h, _ => by cases h
  | d :: ds, r :: rs, hl, h => by
    have ih := lcD_map (v := v) (elt := elt) (ρ := ρ) (ds := ds) (rs := rs) (by simpa using hl) fun i d' r' h1 h2 => h (i + 1) d' r' (by simpa using h1) (by simpa using h2)
    have h0 := h 0 d r rfl rfl
    unfold lcD
    rw [gtName_eq]
    simp only [tTrue, h0, bnd_ok, frz_fro, ih]
    rfl
theorem eLc_run {vs : List Nat} {g : FIt} {v : Nat} {elt : FE} {ρ : PEnv} {ds rs : List Dt} (hg : g ρ = some (.ok ds)) (hl : ds.length = rs.length) (h : ∀ (i : Nat) (d r : Dt), ds[i]? = some d → rs[i]? = some r → elt ((wipeE ρ vs).set v (cD d)) = some (.ok (.fro r))) (hL : ds.length ≤ LINE) :
    eLc vs g (gtName v) tTrue elt ρ = some (.ok (.own rs)) := by
  unfold eLc
  rw [hg, bnd_ok, lcD_map hl h]
  exact if_pos hL
theorem line_small {n : Nat} (h : n ≤ 10000) : n ≤ LINE := by
  have : LINE = 16777216 := rfl
  omega
/-! ### zeros at the end go -/
noncomputable def b_trimmed : FS :=
  sSeq (sSet 1 (e1 gLen (eVar 0)))
  (sSeq (sWhile (tAnd (tB (e2 gGt (eVar 1) (eC (.int 0)))) (tB (e2 gEqS (e2 gIx (eVar 0) (e2 gSub (eVar 1) (eC (.int 1)))) (eC (.int 0)))))
  (sAug gSub 1 (eC (.int 1))))
  (sRet (eSl (eVar 0) oNone (oSome (eVar 1)))))
theorem trimmed_run (xs : List Int) : fnD 1 1 b_trimmed [.lst (iL xs)] = some (.ok (.own (iL (trim xs)))) := by
  rw [fnD_run (np := 1) rfl]
  unfold b_trimmed
  show outR (sSeq _ _ [cD (.lst (iL xs)), none]) = _
  rw [sSeq_nx (ρ' := [cD (.lst (iL xs)), cI xs.length]) (by simp [eVar])]
  obtain ⟨ρ', k, w, ⟨rfl, h1, h2⟩, ht⟩ := while_inv (t := tAnd (tB (e2 gGt (eVar 1) (eC (.int 0)))) (tB (e2 gEqS (e2 gIx (eVar 0) (e2 gSub (eVar 1) (eC (.int 1)))) (eC (.int 0))))) (body := sAug gSub 1 (eC (.int 1)))
    (fun n ρ => ρ = [cD (.lst (iL xs)), cI n] ∧ tsz xs ≤ n ∧ n ≤ xs.length) xs.length _ ⟨rfl, tsz_le xs, Nat.le_refl _⟩ (fun n ρ ⟨q, h1, h2⟩ => by
      subst q
      cases n with
      | zero => left; simp [eVar]
      | succ m =>
        have a1 : atI (iL xs) ((m + 1 : Nat) - 1 : Int) = some (.int (co xs m)) := by
          rw [show ((m + 1 : Nat) - 1 : Int) = (m : Int) by omega]
          exact atCo (by omega)
        have t1 : tAnd (tB (e2 gGt (eVar 1) (eC (.int 0)))) (tB (e2 gEqS (e2 gIx (eVar 0) (e2 gSub (eVar 1) (eC (.int 1)))) (eC (.int 0)))) [cD (.lst (iL xs)), cI (m + 1 : Nat)] = some (.ok (decide (co xs m = 0))) := by
          have hp : (0 : Int) < ((m + 1 : Nat) : Int) := by omega
          rw [tAnd_eq, tB_eq, e2_eq, eVar_fro _ (.int (m + 1 : Nat)) 1 rfl, bnd_ok, eC_eq, bnd_ok, gGt_eq, decide_eq_true hp, bnd_ok, asB_eq, bnd_ok, if_pos rfl, tB_eq, e2_eq, e2_eq, e2_eq, eVar_fro _ (.lst (iL xs)) 0 rfl, eVar_fro _ (.int (m + 1 : Nat)) 1 rfl, bnd_ok, bnd_ok, eC_eq, bnd_ok, gSub_eq, bnd_ok, gIx_lst, a1]
          simp
        rw [t1]
        by_cases z : co xs m = 0
        · right
          refine ⟨by rw [decide_eq_true z], [cD (.lst (iL xs)), cI m], m, by omega, ?_, rfl, ?_, by omega⟩
          · have : (((m + 1 : Nat) : Int) - 1) = (m : Int) := by omega
            unfold sAug
            simp only [List.getElem?_cons_succ, List.getElem?_cons_zero, eC_eq, bndS_ok, gSub_eq, celOf_fro, this]
            rfl
          · by_cases e : tsz xs = m + 1
            · exact absurd (by rw [e]; exact z) (tsz_last xs (by omega))
            · omega
        · left
          rw [decide_eq_false z])
  have hk : k = tsz xs := by
    cases k with
    | zero => omega
    | succ m =>
      have a1 : atI (iL xs) ((m + 1 : Nat) - 1 : Int) = some (.int (co xs m)) := by
        rw [show ((m + 1 : Nat) - 1 : Int) = (m : Int) by omega]
        exact atCo (by omega)
      have hp : (0 : Int) < ((m + 1 : Nat) : Int) := by omega
      rw [tAnd_eq, tB_eq, e2_eq, eVar_fro _ (.int (m + 1 : Nat)) 1 rfl, bnd_ok, eC_eq, bnd_ok, gGt_eq, decide_eq_true hp, bnd_ok, asB_eq, bnd_ok, if_pos rfl, tB_eq, e2_eq, e2_eq, e2_eq, eVar_fro _ (.lst (iL xs)) 0 rfl, eVar_fro _ (.int (m + 1 : Nat)) 1 rfl, bnd_ok, bnd_ok, eC_eq, bnd_ok, gSub_eq, bnd_ok, gIx_lst, a1] at ht
      have z : co xs m ≠ 0 := by
        intro z
        rw [z] at ht
        cases ht
      rcases Nat.lt_or_ge m (tsz xs) with h | h
      · omega
      · exact absurd (tsz_zero xs m h) z
  subst hk
  rw [sSeq_nx w]
  have hs : eSl (eVar 0) oNone (oSome (eVar 1)) [cD (.lst (iL xs)), cI (tsz xs)] = some (.ok (.own (iL (trim xs)))) := by
    unfold eSl oNone oSome
    rw [eVar_fro _ (.lst (iL xs)) 0 rfl, bnd_ok, bnd_ok, eVar_fro _ (.int (tsz xs)) 1 rfl, bnd_ok, asI_eq, bnd_ok, bnd_ok]
    show some (Ex.ok (Rs.own (cutD (iL xs) none (some (tsz xs : Int))))) = _
    unfold cutD trim
    rw [HT.sIx_none, HT.sIx_nat, List.drop_zero, Nat.sub_zero, Nat.min_eq_left (by rw [List.length_map]; exact tsz_le xs), ← List.map_take]
  show outR (bndS _ (eSl (eVar 0) oNone (oSome (eVar 1)) [cD (.lst (iL xs)), cI (tsz xs)]) _) = _
  rw [hs]
  rfl
noncomputable def b_content : FS :=
  sSeq (sSet 1 (eC (.int 0)))
  (sSeq (sFor (iSeq (eVar 0)) (gtName 2)
  (sSet 1 (e2 gGcd (eVar 1) (eVar 2))))
  (sRetV 1))
theorem content_loop (l : Option Cel) : ∀ (xs : List Int) (g : Nat) (v : Option Cel), ∃ v', forD (gtName 2) (sSet 1 (e2 gGcd (eVar 1) (eVar 2))) (iL xs) [l, cI g, v] = some (.nx [l, cI (xs.foldl (fun g x => Int.gcd g x) g : Nat), v'])
  | [], g, v => ⟨v, rfl⟩
  | x :: xs, g, v => by
    obtain ⟨v', w⟩ := content_loop l xs (Int.gcd g x) (cI x)
    refine ⟨v', ?_⟩
    show forD _ _ (.int x :: iL xs) _ = _
    rw [forD_step (ρ1 := [l, cI g, cI x]) (ρ2 := [l, cI (Int.gcd g x), cI x]) rfl (by simp [eVar, gGcd_eq])]
    exact w
theorem content_run (xs : List Int) : fnD 1 2 b_content [.lst (iL xs)] = some (.ok (.fro (.int (cont xs)))) := by
  rw [fnD_run (np := 1) rfl]
  unfold b_content
  show outR (sSeq _ _ [cD (.lst (iL xs)), none, none]) = _
  obtain ⟨v', w⟩ := content_loop (cD (.lst (iL xs))) xs 0 none
  rw [sSeq_nx (ρ' := [cD (.lst (iL xs)), cI 0, none]) (by simp), sSeq_nx (ρ' := _) (by rw [for_run (iSeq_lst (ds := iL xs) rfl)]; exact w)]
  rfl
/-! ### making -/
noncomputable def b_plInit (c e0 : Nat) : FS :=
  sSeq (sIf (tB (e2 gEqS (eVar 2) (eC (.int 0))))
  (sRaise e0)
  sNext)
  (sSeq (sSet 3 (eCa 1 (fnD 1 1 b_trimmed) (aCons (e1 gList (eVar 1)) aNil)))
  (sSeq (sFrz 3 (sSet 4 (e2 gGcd (eCa 1 (fnD 1 2 b_content) (aCons (eVar 3) aNil)) (eVar 2))))
  (sSeq (sIf (tB (e2 gLt (eVar 2) (eC (.int 0))))
  (sSet 4 (e1 gNeg (eVar 4)))
  sNext)
  (sSeq (sFrz 3 (sFld 0 c 0 (e1 gTuple (eLc [5] (iSeq (eVar 3)) (gtName 5) tTrue (e2 gDiv (eVar 5) (eVar 4))))))
  (sFld 0 c 1 (e2 gDiv (eVar 2) (eVar 4)))))))
noncomputable abbrev m_pl (c e0 : Nat) : Fn := mkD c (fnI c 2 2 3 (b_plInit c e0))
theorem plS_small {xs : List Int} {d : Int} (hd : d ≠ 0) : (plS xs d).natAbs ≤ d.natAbs := by
  rw [plS_abs]
  exact Nat.gcd_le_right _ (Int.natAbs_pos.mpr hd)
theorem pl_make (c e0 : Nat) {xs : List Int} {cs : Dt} (hc : cs = .lst (iL xs) ∨ cs = .tup (iL xs)) (hx : xs.length ≤ 10000) {d : Int} (hd : d ≠ 0) {b : Nat} [k : Sm d b] (hb : b ≤ 9000) : m_pl c e0 [cs, .int d] = some (.ok (.fro (pl c xs d))) := by
  have s1 : Sm (plS xs d) b := ⟨Nat.lt_of_le_of_lt (plS_small hd) k.lt, k.pos⟩
  have nz := plS_ne (xs := xs) hd
  have hi : fnI c 2 2 3 (b_plInit c e0) [cs, .int d] = some (.ok [.tup (iL (plC xs d)), .int (plD xs d)]) := by
    rw [fnI_run (np := 2) rfl]
    unfold b_plInit
    show outI c 2 (sSeq _ _ [some (.mk c []), cD cs, cI d, none, none, none]) = _
    rw [sSeq_nx (ρ' := [some (.mk c []), cD cs, cI d, none, none, none]) (by simp [eVar, hd])]
    have g1 : e1 gList (eVar 1) [some (.mk c []), cD cs, cI d, none, none, none] = some (.ok (.own (iL xs))) := by
      rw [e1_eq, eVar_fro _ cs 1 rfl, bnd_ok]
      rcases hc with rfl | rfl <;> rfl
    rw [sSeq_nx (ρ' := [some (.mk c []), cD cs, cI d, cO (iL (trim xs)), none, none]) (by
      rw [sSet_run (r := .own (iL (trim xs))) (by rw [eCa_run (ds := [.lst (iL xs)]) (by rw [aCons_eq, g1]; rfl), trimmed_run])]
      rfl)]
    rw [sSeq_nx (ρ' := [some (.mk c []), cD cs, cI d, cD (.lst (iL (trim xs))), cI (Nat.gcd (cont (trim xs)) d.natAbs : Nat), none]) (by
      rw [sFrz_own (ds := iL (trim xs)) rfl]
      simp only [List.set_cons_succ, List.set_cons_zero]
      rw [sSet_run (r := .fro (.int (Nat.gcd (cont (trim xs)) d.natAbs : Nat))) (by
        rw [e2_eq, eCa_run (ds := [.lst (iL (trim xs))]) (by simp [eVar]), content_run, bnd_ok, eVar_fro _ (.int d) 2 rfl, bnd_ok, gGcd_eq]
        rfl)]
      rfl)]
    rw [sSeq_nx (ρ' := [some (.mk c []), cD cs, cI d, cD (.lst (iL (trim xs))), cI (plS xs d), none]) (by
      by_cases h : d < 0
      · simp [eVar, h, plS]
      · simp [eVar, h, plS])]
    have hlen : (iL (trim xs)).length ≤ 10000 := by
      rw [List.length_map, trim_len]
      have := tsz_le xs
      omega
    rw [sSeq_nx (ρ' := [some (.mk c [.tup (iL (plC xs d))]), cD cs, cI d, cD (.lst (iL (trim xs))), cI (plS xs d), none]) (by
      rw [sFrz_fro (d := .lst (iL (trim xs))) rfl]
      rw [sFld_run (d := .tup (iL (plC xs d))) (ds := []) (by
        rw [e1_eq, eLc_run (ds := iL (trim xs)) (rs := iL (plC xs d)) (iSeq_lst (by rw [eVar_fro _ (.lst (iL (trim xs))) 3 rfl])) (by unfold plC; simp) (fun i d' r h1 h2 => by
          have hi : i < (trim xs).length := by
            have := (List.getElem?_eq_some_iff.mp h1).1
            simpa using this
          rw [List.getElem?_map, List.getElem?_eq_getElem hi] at h1
          unfold plC at h2
          rw [List.getElem?_map, List.getElem?_map, List.getElem?_eq_getElem hi] at h2
          cases h1
          cases h2
          show e2 gDiv (eVar 5) (eVar 4) [some (.mk c []), cD cs, cI d, cD (.lst (iL (trim xs))), cI (plS xs d), cI _] = _
          rw [e2_eq, eVar_fro _ (.int (trim xs)[i]) 5 rfl, bnd_ok, eVar_fro _ (.int (plS xs d)) 4 rfl, bnd_ok, gDiv_sm nz hb]) (line_small hlen), bnd_ok]
        rfl) rfl]
      rfl)]
    rw [sFld_run (d := .int (plD xs d)) (ds := [.tup (iL (plC xs d))]) (by
      rw [e2_eq, eVar_fro _ (.int d) 2 rfl, bnd_ok, eVar_fro _ (.int (plS xs d)) 4 rfl, bnd_ok, gDiv_sm nz hb]
      rfl) rfl]
    exact if_pos ⟨rfl, rfl⟩
  unfold m_pl mkD
  rw [hi]
  rfl
theorem pl_zero (c e0 : Nat) (cs : Dt) : m_pl c e0 [cs, .int 0] = some (.ex e0 []) := by
  have hi : fnI c 2 2 3 (b_plInit c e0) [cs, .int 0] = some (.ex e0 []) := by
    rw [fnI_run (np := 2) rfl]
    unfold b_plInit
    show outI c 2 (sSeq _ _ [some (.mk c []), cD cs, cI 0, none, none, none]) = _
    rw [sSeq_xc (c := e0) (es := []) (ρ' := [some (.mk c []), cD cs, cI 0, none, none, none]) (by simp [eVar, sRaise_eq])]
    rfl
  unfold m_pl mkD
  rw [hi]
  rfl
end Pd

set_option maxHeartbeats 2000000
/-! PpC: the law's test of a polynomial; drawn coefficients. -/
namespace Pd
open PySem PySem.Spec L2
noncomputable def b_plIs (c : Nat) : FS :=
  sSeq (sIf (tOr (tNot (tTru (e1 (gIsi (ansC [] [(c, true)])) (eVar 0)))) (tOr (tNot (tTru (e1 (gIsi (ansB "tuple" [])) (e1 (gFld (tbl [(c, 0)])) (eVar 0))))) (tOr (tNot (tTru (eCa 1 (fnD 1 0 b_isI) (aCons (e1 (gFld (tbl [(c, 1)])) (eVar 0)) aNil)))) (tB (e2 gLt (e1 (gFld (tbl [(c, 1)])) (eVar 0)) (eC (.int 1)))))))
  (sRet (eC (.bl false)))
  sNext)
  (sSeq (sSet 3 (e1 (gFld (tbl [(c, 1)])) (eVar 0)))
  (sSeq (sFor (iSeq (e1 (gFld (tbl [(c, 0)])) (eVar 0))) (gtName 4)
  (sSeq (sIf (tNot (tTru (eCa 1 (fnD 1 0 b_isI) (aCons (eVar 4) aNil))))
  (sRet (eC (.bl false)))
  sNext)
  (sSet 3 (eCa 2 (fnD 2 1 b_dvs) (aCons (eVar 3) (aCons (eVar 4) aNil))))))
  (sSeq (sIf (tOr (tB (e2 gNeS (eVar 3) (eC (.int 1)))) (tAnd (tB (e2 gGt (e1 gLen (e1 (gFld (tbl [(c, 0)])) (eVar 0))) (eC (.int 0)))) (tB (e2 gEqS (e2 gIx (e1 (gFld (tbl [(c, 0)])) (eVar 0)) (e1 gNeg (eC (.int 1)))) (eC (.int 0))))))
  (sRet (eC (.bl false)))
  sNext)
  (sSeq (sSet 5 (e2 gMax (e1 gLen (e1 (gFld (tbl [(c, 0)])) (eVar 0))) (e1 gLen (eVar 1))))
  (sSeq (sSet 6 (e2 gCat (e1 gList (e1 (gFld (tbl [(c, 0)])) (eVar 0))) (eLc [7] (iRng1 (e2 gSub (eVar 5) (e1 gLen (e1 (gFld (tbl [(c, 0)])) (eVar 0))))) (gtName 7) tTrue (eC (.int 0)))))
  (sSeq (sSet 8 (e2 gCat (e1 gList (eVar 1)) (eLc [7] (iRng1 (e2 gSub (eVar 5) (e1 gLen (eVar 1)))) (gtName 7) tTrue (eC (.int 0)))))
  (sSeq (sFor (iRng1 (eVar 5)) (gtName 7)
  (sIf (tB (e2 gNeS (e2 gMul (e2 gIx (eVar 6) (eVar 7)) (eVar 2)) (e2 gMul (e2 gIx (eVar 8) (eVar 7)) (e1 (gFld (tbl [(c, 1)])) (eVar 0)))))
  (sRet (eC (.bl false)))
  sNext))
  (sRet (eC (.bl true))))))))))
noncomputable def eCf (c i : Nat) : FE := e1 (gFld (tbl [(c, 0)])) (eVar i)
theorem eCf_eq {c i : Nat} {ρ : PEnv} {t : Dt} {q : Int} (h : ρ[i]? = some (cD (.ins c [t, .int q]))) : e1 (gFld (tbl [(c, 0)])) (eVar i) ρ = some (.ok (.fro t)) := by
  rw [e1_eq, eVar_fro ρ _ i h, bnd_ok]
  exact gFld_tbl c _ (tbl_one c 0) rfl
theorem eDn_eq {c i : Nat} {ρ : PEnv} {t : Dt} {q : Int} (h : ρ[i]? = some (cD (.ins c [t, .int q]))) : e1 (gFld (tbl [(c, 1)])) (eVar i) ρ = some (.ok (.fro (.int q))) := by
  rw [e1_eq, eVar_fro ρ _ i h, bnd_ok]
  exact gFld_tbl c _ (tbl_one c 1) rfl
theorem atI_last {ys : List Int} (h : ys ≠ []) : atI (iL ys) (-1) = some (.int (co ys (ys.length - 1))) := by
  have hp : 0 < ys.length := List.length_pos_iff.mpr h
  unfold atI ixN
  rw [if_neg (by decide), if_pos (by rw [List.length_map]; omega)]
  show (iL ys)[((-1 : Int) + ((iL ys).length : Int)).toNat]? = _
  rw [show ((-1 : Int) + ((iL ys).length : Int)).toNat = ys.length - 1 by rw [List.length_map]; omega, List.getElem?_map, co_lt (by omega)]
  rfl
theorem co_pad (xs : List Int) (n k : Nat) : co (xs ++ List.replicate n 0) k = co xs k := by
  unfold co
  rw [List.getD_eq_getElem?_getD, List.getD_eq_getElem?_getD]
  by_cases h : k < xs.length
  · rw [List.getElem?_append_left h]
  · rw [List.getElem?_append_right (by omega), List.getElem?_replicate, List.getElem?_eq_none (by omega : xs.length ≤ k)]
    split <;> rfl
/-- zeros by a comprehension -/
theorem zeros_run {v : Nat} {f : FE} {ρ : PEnv} {n : Nat} (h : f ρ = some (.ok (.fro (.int n)))) (hn : n ≤ 10000) : eLc [v] (iRng1 f) (gtName v) tTrue (eC (.int 0)) ρ = some (.ok (.own (iL (List.replicate n 0)))) := by
  refine eLc_run (ds := intsFrom 0 n) (by rw [rng1_run (n := (n : Int)) h (rOk_of (by omega) (by omega)), Int.toNat_natCast]) (by rw [intsFrom_length]; simp) (fun i d r h1 h2 => ?_) (by rw [intsFrom_length]; exact line_small hn)
  rw [List.getElem?_map, List.getElem?_replicate] at h2
  have hi : i < n := (intsFrom_get 0 n i h1).1
  rw [if_pos hi] at h2
  cases h2
  rfl
theorem divs_loop (x0 x1 x2 : Option Cel) : ∀ (ys : List Int) (g : Int) (v : Option Cel), ∃ v', forD (gtName 4) (sSeq (sIf (tNot (tTru (eCa 1 (fnD 1 0 b_isI) (aCons (eVar 4) aNil)))) (sRet (eC (.bl false))) sNext) (sSet 3 (eCa 2 (fnD 2 1 b_dvs) (aCons (eVar 3) (aCons (eVar 4) aNil))))) (iL ys)
      [x0, x1, x2, cI g, v, none, none, none, none] = some (.nx [x0, x1, x2, cI (ys.foldl (fun g x => (Int.gcd g x : Int)) g), v', none, none, none, none])
  | [], g, v => ⟨v, rfl⟩
  | y :: ys, g, v => by
    obtain ⟨v', w⟩ := divs_loop x0 x1 x2 ys (Int.gcd g y) (cI y)
    refine ⟨v', ?_⟩
    show forD _ _ (.int y :: iL ys) _ = _
    have t : eCa 1 (fnD 1 0 b_isI) (aCons (eVar 4) aNil) [x0, x1, x2, cI g, cI y, none, none, none, none] = some (.ok (.fro (.bl true))) := by rw [eCa_run (ds := [.int y]) (by simp [eVar]), isI_ok]
    rw [forD_step (ρ1 := [x0, x1, x2, cI g, cI y, none, none, none, none]) (ρ2 := [x0, x1, x2, cI (Int.gcd g y), cI y, none, none, none, none]) rfl (by
      rw [sSeq_nx (ρ' := [x0, x1, x2, cI g, cI y, none, none, none, none]) (by rw [sIf_f (by simp only [tNot_eq, tTru_eq, t, bnd_ok, tru_bl]; rfl)]; rfl),
        sSet_run (r := .fro (.int (Int.gcd g y))) (by rw [eCa_run (ds := [.int g, .int y]) (by simp [eVar]), dvs_run])]
      rfl)]
    exact w
theorem foldl_int : ∀ (ys : List Int) (g : Nat), ys.foldl (fun g x => (Int.gcd g x : Int)) (g : Int) = ((ys.foldl (fun (g : Nat) x => Int.gcd g x) g : Nat) : Int)
  | [], g => rfl
  | y :: ys, g => foldl_int ys (Int.gcd g y)
theorem plC_small {xs : List Int} {d : Int} (hd : d ≠ 0) (k : Nat) : (co (plC xs d) k).natAbs ≤ (co xs k).natAbs := natAbs_le_of_mul (plC_mul hd k) (plS_ne hd)
theorem plD_small {xs : List Int} {d : Int} (hd : d ≠ 0) : (plD xs d).natAbs ≤ d.natAbs := natAbs_le_of_mul (plD_mul hd) (plS_ne hd)
theorem plIs_run (c : Nat) {xs zs : List Int} {d e : Int} (hd : d ≠ 0) (h : ∀ k, co xs k * e = co zs k * d) {B : Nat} (hB : B ≤ 40000000) (sx : ∀ k, Sm (co xs k) B) (sz : ∀ k, Sm (co zs k) B) (sd : Sm d B) (se : Sm e B) (lx : xs.length ≤ 4000) (lz : zs.length ≤ 4000) :
    fnD 3 6 (b_plIs c) [pl c xs d, .lst (iL zs), .int e] = some (.ok (.fro (.bl true))) := by
  show fnD 3 6 (b_plIs c) [.ins c [.tup (iL (plC xs d)), .int (plD xs d)], .lst (iL zs), .int e] = _
  have hq := plD_pos (xs := xs) hd
  have hg := pl_gcd (xs := xs) hd
  have hlast := plC_last (xs := xs) hd
  have hlen : (plC xs d).length ≤ 4000 := by rw [plC_len]; exact Nat.le_trans (tsz_le xs) lx
  have hv : ∀ k, co (plC xs d) k * e = co zs k * plD xs d := fun k => by
    refine Int.eq_of_mul_eq_mul_left hd ?_
    have h1 := pl_cross (xs := xs) hd k
    have h2 := h k
    generalize co (plC xs d) k = y at *
    generalize co xs k = x at *
    generalize co zs k = w at *
    generalize plD xs d = q at *
    grind
  have sy : ∀ k, Sm (co (plC xs d) k) B := fun k => ⟨Nat.lt_of_le_of_lt (plC_small hd k) (sx k).lt, (sx k).pos⟩
  have sq : Sm (plD xs d) B := ⟨Nat.lt_of_le_of_lt (plD_small hd) sd.lt, sd.pos⟩
  generalize plC xs d = ys at *
  generalize plD xs d = q at *
  rw [fnD_run (np := 3) rfl]
  unfold b_plIs
  generalize hp : (Dt.ins c [.tup (iL ys), .int q]) = p
  show outR (sSeq _ _ [cD p, cD (.lst (iL zs)), cI e, none, none, none, none, none, none]) = _
  have hcf : ∀ v3 v4 v5 v6 v7 v8, e1 (gFld (tbl [(c, 0)])) (eVar 0) [cD p, cD (.lst (iL zs)), cI e, v3, v4, v5, v6, v7, v8] = some (.ok (.fro (.tup (iL ys)))) := fun _ _ _ _ _ _ => eCf_eq (q := q) (by rw [hp]; rfl)
  have hdn : ∀ v3 v4 v5 v6 v7 v8, e1 (gFld (tbl [(c, 1)])) (eVar 0) [cD p, cD (.lst (iL zs)), cI e, v3, v4, v5, v6, v7, v8] = some (.ok (.fro (.int q))) := fun _ _ _ _ _ _ => eDn_eq (t := .tup (iL ys)) (by rw [hp]; rfl)
  have t1 : e1 (gIsi (ansC [] [(c, true)])) (eVar 0) [cD p, cD (.lst (iL zs)), cI e, none, none, none, none, none, none] = some (.ok (.fro (.bl true))) := by
    rw [e1_eq, eVar_fro _ p 0 rfl, bnd_ok, ← hp]
    exact gIsi_C c _ (by simp [List.lookup])
  have t2 : e1 (gIsi (ansB "tuple" [])) (e1 (gFld (tbl [(c, 0)])) (eVar 0)) [cD p, cD (.lst (iL zs)), cI e, none, none, none, none, none, none] = some (.ok (.fro (.bl true))) := by
    show bnd (e1 (gFld (tbl [(c, 0)])) (eVar 0) _) _ = _
    rw [hcf, bnd_ok]
    rfl
  have t3 : eCa 1 (fnD 1 0 b_isI) (aCons (e1 (gFld (tbl [(c, 1)])) (eVar 0)) aNil) [cD p, cD (.lst (iL zs)), cI e, none, none, none, none, none, none] = some (.ok (.fro (.bl true))) := by
    rw [eCa_run (ds := [.int q]) (by simp only [aCons_eq, hdn, bnd_ok, frz_fro, aNil_eq]), isI_ok]
  rw [sSeq_nx (ρ' := [cD p, cD (.lst (iL zs)), cI e, none, none, none, none, none, none]) (by
    have hq1 : ¬ q < 1 := by omega
    rw [sIf_f (by simp only [tOr_eq, tNot_eq, tTru_eq, tB_eq, e2_eq, t1, t2, t3, hdn, bnd_ok, tru_bl, eC_eq, gLt_eq, vB, asB_eq, decide_eq_false hq1]; rfl)]
    rfl)]
  rw [sSeq_nx (ρ' := [cD p, cD (.lst (iL zs)), cI e, cI q, none, none, none, none, none]) (by rw [sSet_run (hdn _ _ _ _ _ _)]; rfl)]
  obtain ⟨v4, w1⟩ := divs_loop (cD p) (cD (.lst (iL zs))) (cI e) ys q none
  have hone : ys.foldl (fun g x => (Int.gcd g x : Int)) q = 1 := by
    have e0 : q = ((q.natAbs : Nat) : Int) := by omega
    rw [e0, foldl_int, foldl_gcd, Nat.gcd_comm, hg]
    rfl
  rw [hone] at w1
  rw [sSeq_nx (ρ' := _) (by rw [for_run (iSeq_tup (ds := iL ys) (hcf _ _ _ _ _ _))]; exact w1)]
  rw [sSeq_nx (ρ' := [cD p, cD (.lst (iL zs)), cI e, cI 1, v4, none, none, none, none]) (by
    have t4 : tOr (tB (e2 gNeS (eVar 3) (eC (.int 1)))) (tAnd (tB (e2 gGt (e1 gLen (e1 (gFld (tbl [(c, 0)])) (eVar 0))) (eC (.int 0)))) (tB (e2 gEqS (e2 gIx (e1 (gFld (tbl [(c, 0)])) (eVar 0)) (e1 gNeg (eC (.int 1)))) (eC (.int 0))))) [cD p, cD (.lst (iL zs)), cI e, cI 1, v4, none, none, none, none] = some (.ok false) := by
      have hl : e1 gLen (e1 (gFld (tbl [(c, 0)])) (eVar 0)) [cD p, cD (.lst (iL zs)), cI e, cI 1, v4, none, none, none, none] = vI ys.length := by
        show bnd (e1 (gFld (tbl [(c, 0)])) (eVar 0) _) _ = _
        rw [hcf, bnd_ok, gLen_tup, List.length_map]
      rw [tOr_eq, tB_eq, e2_eq, eVar_fro _ (.int 1) 3 rfl, bnd_ok, eC_eq, bnd_ok, gNeS_int, decide_eq_true rfl, bnd_ok, Bool.not_true, asB_eq, bnd_ok, if_neg (by decide), tAnd_eq, tB_eq, e2_eq, hl, bnd_ok, eC_eq, bnd_ok, gGt_eq, bnd_ok, asB_eq, bnd_ok]
      by_cases hy : ys = []
      · subst hy
        rfl
      · have hp0 : (0 : Int) < ys.length := by
          have := List.length_pos_iff.mpr hy
          omega
        rw [decide_eq_true hp0, if_pos rfl, tB_eq, e2_eq, e2_eq, hcf, bnd_ok]
        rw [show e1 gNeg (eC (.int 1)) [cD p, cD (.lst (iL zs)), cI e, cI 1, v4, none, none, none, none] = vI (-1) from rfl, bnd_ok, gIx_tup, atI_last hy]
        show bnd (bnd (vI (co ys (ys.length - 1))) _) _ = _
        rw [bnd_ok, eC_eq, bnd_ok, gEqS_int, decide_eq_false (hlast hy), bnd_ok, asB_eq]
    rw [sIf_f t4]
    rfl)]
  obtain ⟨m, hm, hm1, hm2⟩ : ∃ m : Nat, (if (ys.length : Int) < (zs.length : Int) then (zs.length : Int) else (ys.length : Int)) = m ∧ ys.length ≤ m ∧ zs.length ≤ m := ⟨max ys.length zs.length, by split <;> omega, by omega, by omega⟩
  have hm4 : m ≤ 4000 := by split at hm <;> omega
  have hl : ∀ v5 v6 v7 v8, e1 gLen (e1 (gFld (tbl [(c, 0)])) (eVar 0)) [cD p, cD (.lst (iL zs)), cI e, cI 1, v4, v5, v6, v7, v8] = vI ys.length := fun _ _ _ _ => by
    show bnd (e1 (gFld (tbl [(c, 0)])) (eVar 0) _) _ = _
    rw [hcf, bnd_ok, gLen_tup, List.length_map]
  have hlz : ∀ v5 v6 v7 v8, e1 gLen (eVar 1) [cD p, cD (.lst (iL zs)), cI e, cI 1, v4, v5, v6, v7, v8] = vI zs.length := fun _ _ _ _ => by
    rw [e1_eq, eVar_fro _ (.lst (iL zs)) 1 rfl, bnd_ok, gLen_lst, List.length_map]
  rw [sSeq_nx (ρ' := [cD p, cD (.lst (iL zs)), cI e, cI 1, v4, cI m, none, none, none]) (by
    rw [sSet_run (r := .fro (.int m)) (by rw [e2_eq, hl, bnd_ok, hlz, bnd_ok, gMax_eq, hm])]; rfl)]
  have padY : e2 gCat (e1 gList (e1 (gFld (tbl [(c, 0)])) (eVar 0))) (eLc [7] (iRng1 (e2 gSub (eVar 5) (e1 gLen (e1 (gFld (tbl [(c, 0)])) (eVar 0))))) (gtName 7) tTrue (eC (.int 0))) [cD p, cD (.lst (iL zs)), cI e, cI 1, v4, cI m, none, none, none] = some (.ok (.own (iL (ys ++ List.replicate (m - ys.length) 0)))) := by
    have a1 : e1 gList (e1 (gFld (tbl [(c, 0)])) (eVar 0)) [cD p, cD (.lst (iL zs)), cI e, cI 1, v4, cI m, none, none, none] = some (.ok (.own (iL ys))) := by
      show bnd (e1 (gFld (tbl [(c, 0)])) (eVar 0) _) _ = _
      rw [hcf, bnd_ok]
      rfl
    rw [e2_eq, a1, bnd_ok, zeros_run (n := m - ys.length) (by rw [e2_eq, eVar_fro _ (.int m) 5 rfl, bnd_ok, hl, bnd_ok, gSub_eq, show (m : Int) - (ys.length : Int) = ((m - ys.length : Nat) : Int) by omega]) (by omega), bnd_ok]
    show (if _ then _ else _) = _
    rw [if_pos (by rw [List.length_map, List.length_map, List.length_replicate]; exact line_small (by omega)), ← List.map_append]
  have padZ : ∀ v6, e2 gCat (e1 gList (eVar 1)) (eLc [7] (iRng1 (e2 gSub (eVar 5) (e1 gLen (eVar 1)))) (gtName 7) tTrue (eC (.int 0))) [cD p, cD (.lst (iL zs)), cI e, cI 1, v4, cI m, v6, none, none] = some (.ok (.own (iL (zs ++ List.replicate (m - zs.length) 0)))) := fun v6 => by
    have a1 : e1 gList (eVar 1) [cD p, cD (.lst (iL zs)), cI e, cI 1, v4, cI m, v6, none, none] = some (.ok (.own (iL zs))) := by
      rw [e1_eq, eVar_fro _ (.lst (iL zs)) 1 rfl, bnd_ok]
      rfl
    rw [e2_eq, a1, bnd_ok, zeros_run (n := m - zs.length) (by rw [e2_eq, eVar_fro _ (.int m) 5 rfl, bnd_ok, hlz, bnd_ok, gSub_eq, show (m : Int) - (zs.length : Int) = ((m - zs.length : Nat) : Int) by omega]) (by omega), bnd_ok]
    show (if _ then _ else _) = _
    rw [if_pos (by rw [List.length_map, List.length_map, List.length_replicate]; exact line_small (by omega)), ← List.map_append]
  rw [sSeq_nx (ρ' := [cD p, cD (.lst (iL zs)), cI e, cI 1, v4, cI m, cO (iL (ys ++ List.replicate (m - ys.length) 0)), none, none]) (by rw [sSet_run padY]; rfl)]
  rw [sSeq_nx (ρ' := [cD p, cD (.lst (iL zs)), cI e, cI 1, v4, cI m, cO (iL (ys ++ List.replicate (m - ys.length) 0)), none, cO (iL (zs ++ List.replicate (m - zs.length) 0))]) (by rw [sSet_run (padZ _)]; rfl)]
  obtain ⟨ρ', w2, v7, rfl⟩ := for_rng (v := 7) (body := sIf (tB (e2 gNeS (e2 gMul (e2 gIx (eVar 6) (eVar 7)) (eVar 2)) (e2 gMul (e2 gIx (eVar 8) (eVar 7)) (e1 (gFld (tbl [(c, 1)])) (eVar 0))))) (sRet (eC (.bl false))) sNext) (a := 0) (n := m)
    (ρ := [cD p, cD (.lst (iL zs)), cI e, cI 1, v4, cI m, cO (iL (ys ++ List.replicate (m - ys.length) 0)), none, cO (iL (zs ++ List.replicate (m - zs.length) 0))])
    (fun k ρ => ∃ v, ρ = [cD p, cD (.lst (iL zs)), cI e, cI 1, v4, cI m, cO (iL (ys ++ List.replicate (m - ys.length) 0)), v, cO (iL (zs ++ List.replicate (m - zs.length) 0))]) ⟨none, rfl⟩ (fun k ρ hk ⟨v, r⟩ => by
      subst r
      have a1 : atI (iL (ys ++ List.replicate (m - ys.length) 0)) (0 + (k : Int)) = some (.int (co ys k)) := by
        rw [Int.zero_add, atCo (by rw [List.length_append, List.length_replicate]; omega), co_pad]
      have a2 : atI (iL (zs ++ List.replicate (m - zs.length) 0)) (0 + (k : Int)) = some (.int (co zs k)) := by
        rw [Int.zero_add, atCo (by rw [List.length_append, List.length_replicate]; omega), co_pad]
      have sy1 := sy k
      have sz1 := sz k
      have g1 : gMul (.fro (.int (co ys k))) (.fro (.int e)) = vI (co ys k * e) := gMul_sm (by omega)
      have g2 : gMul (.fro (.int (co zs k))) (.fro (.int q)) = vI (co zs k * q) := gMul_sm (by omega)
      refine ⟨[cD p, cD (.lst (iL zs)), cI e, cI 1, v4, cI m, cO (iL (ys ++ List.replicate (m - ys.length) 0)), cI (0 + k), cO (iL (zs ++ List.replicate (m - zs.length) 0))], .inl ?_, _, rfl⟩
      show sIf _ _ _ [cD p, cD (.lst (iL zs)), cI e, cI 1, v4, cI m, cO (iL (ys ++ List.replicate (m - ys.length) 0)), cI (0 + k), cO (iL (zs ++ List.replicate (m - zs.length) 0))] = _
      rw [sIf_f (by
        rw [tB_eq, e2_eq, e2_eq, e2_eq, e2_eq, e2_eq, eVar_own _ (iL (ys ++ List.replicate (m - ys.length) 0)) 6 rfl, bnd_ok, eVar_fro _ (.int (0 + (k : Int))) 7 rfl, bnd_ok, gIx_bor, a1]
        show bnd (bnd (bnd (vI (co ys k)) _) _) _ = _
        rw [bnd_ok, eVar_fro _ (.int e) 2 rfl, bnd_ok, g1, bnd_ok, eVar_own _ (iL (zs ++ List.replicate (m - zs.length) 0)) 8 rfl, bnd_ok, bnd_ok, gIx_bor, a2]
        show bnd (bnd (bnd (vI (co zs k)) _) _) _ = _
        rw [bnd_ok, hdn, bnd_ok, g2, bnd_ok, gNeS_int, decide_eq_true (hv k), bnd_ok, Bool.not_true, asB_eq])]
      rfl)
  rw [sSeq_nx (ρ' := _) (by rw [for_run (rng1_run (n := (m : Int)) (by simp [eVar]) (rOk_of (by omega) (by omega))), Int.toNat_natCast]; exact w2)]
  rfl
end Pd

set_option maxHeartbeats 2000000
/-! PpD: drawn coefficients, the law's products. -/
namespace Pd
open PySem PySem.Spec L2
theorem co_set {xs : List Int} {m : Nat} {v : Int} (h : m < xs.length) (k : Nat) : co (xs.set m v) k = if k = m then v else co xs k := by
  unfold co
  rw [List.getD_eq_getElem?_getD, List.getD_eq_getElem?_getD]
  by_cases e : k = m
  · subst e
    rw [List.getElem?_set_self h, if_pos rfl]
    rfl
  · rw [List.getElem?_set_ne (fun z => e z.symm), if_neg e]
theorem setIx_run {i : Nat} {fk f : FE} {ρ : PEnv} {xs : List Int} {m : Nat} {v : Int} (h : ρ[i]? = some (some (.own (iL xs)))) (hf : f ρ = some (.ok (.fro (.int v)))) (hk : fk ρ = some (.ok (.fro (.int m)))) (hm : m < xs.length) :
    sSetIx i fk f ρ = some (.nx (ρ.set i (some (.own (iL (xs.set m v)))))) := by
  unfold sSetIx
  rw [h]
  dsimp only
  rw [hf, bndS_ok, frz_fro, bndS_ok, hk, bndS_ok, asI_eq, bndS_ok]
  have : ixN (iL xs).length (m : Int) = some m := by
    unfold ixN
    rw [if_pos (by omega), if_pos (by rw [List.length_map]; omega), Int.toNat_natCast]
  rw [this]
  dsimp only
  rw [← List.map_set]
theorem co_repl (n k : Nat) : co (List.replicate n 0) k = 0 := by
  unfold co
  rw [List.getD_eq_getElem?_getD, List.getElem?_replicate]
  split <;> rfl
/-! ### drawn coefficients -/
def cf (n : Int) : Int := if n.fmod 4 = 1 then 0 else (n.fdiv 4).fmod 25 - 12
theorem cf_small (n : Int) : -12 ≤ cf n ∧ cf n ≤ 12 := by
  unfold cf
  have := fmod_pos (i := n.fdiv 4) (j := 25) (by decide)
  split <;> omega
noncomputable def b_lawCoefs : FS :=
  sSeq (sSet 3 (eLst aNil))
  (sSeq (sFor (iRng1 (eVar 2)) (gtName 4)
  (sSeq (sSet 5 (e2 gIx (eVar 0) (e2 gAdd (eVar 1) (eVar 4))))
  (sIf (tB (e2 gEqS (e2 gMod (eVar 5) (eC (.int 4))) (eC (.int 1))))
  (sApp 3 (eC (.int 0)))
  (sApp 3 (e2 gSub (e2 gMod (e2 gDiv (eVar 5) (eC (.int 4))) (eC (.int 25))) (eC (.int 12)))))))
  (sRetV 3))
theorem coefs_run {z : Nat → Int} {n st sz : Nat} (h : st + sz ≤ n) (hn : n ≤ 1000) :
    fnD 3 3 b_lawCoefs [.lst ((List.range n).map fun i => Dt.int (z i)), .int st, .int sz] = some (.ok (.own (iL ((List.range sz).map fun i => cf (z (st + i)))))) := by
  have iz : ∀ i : Nat, i < n → atI ((List.range n).map fun i => Dt.int (z i)) (i : Int) = some (.int (z i)) := fun i hi => atI_nat (by omega) (by
    rw [Int.toNat_natCast, List.getElem?_map, List.getElem?_range hi]
    rfl)
  generalize ((List.range n).map fun i => Dt.int (z i)) = Z at *
  rw [fnD_run (np := 3) rfl]
  unfold b_lawCoefs
  show outR (sSeq _ _ [cD (.lst Z), cI st, cI sz, none, none, none]) = _
  rw [sSeq_nx (ρ' := [cD (.lst Z), cI st, cI sz, cO [], none, none]) (by simp)]
  obtain ⟨ρ', w, v4, v5, rfl⟩ := for_rng (v := 4) (body := sSeq (sSet 5 (e2 gIx (eVar 0) (e2 gAdd (eVar 1) (eVar 4))))
      (sIf (tB (e2 gEqS (e2 gMod (eVar 5) (eC (.int 4))) (eC (.int 1)))) (sApp 3 (eC (.int 0))) (sApp 3 (e2 gSub (e2 gMod (e2 gDiv (eVar 5) (eC (.int 4))) (eC (.int 25))) (eC (.int 12)))))) (a := 0) (n := sz)
    (ρ := [cD (.lst Z), cI st, cI sz, cO [], none, none]) (fun k ρ => ∃ v4 v5, ρ = [cD (.lst Z), cI st, cI sz, cO (iL ((List.range k).map fun i => cf (z (st + i)))), v4, v5]) ⟨none, none, rfl⟩ (fun k ρ hk ⟨v4, v5, q⟩ => by
      subst q
      have ln : (iL ((List.range k).map fun i => cf (z (st + i)))).length < LINE := by
        rw [List.length_map, List.length_map, List.length_range]
        have : LINE = 16777216 := rfl
        omega
      have ai : atI Z ((st : Int) + (0 + (k : Int))) = some (.int (z (st + k))) := by
        have := iz (st + k) (by omega)
        rwa [show ((st + k : Nat) : Int) = (st : Int) + (0 + (k : Int)) by omega] at this
      have ex1 : iL ((List.range (k + 1)).map fun i => cf (z (st + i))) = iL ((List.range k).map fun i => cf (z (st + i))) ++ [.int (cf (z (st + k)))] := by
        rw [List.range_succ, List.map_append]
        show List.map Dt.int (_ ++ _) = _
        rw [List.map_append]
        rfl
      have k4 : gDiv (.fro (.int (z (st + k)))) (.fro (.int 4)) = vI ((z (st + k)).fdiv 4) := gDiv_sm (by decide) (b := 4) (k := ⟨by decide, by decide⟩) (by decide)
      refine ⟨[cD (.lst Z), cI st, cI sz, cO (iL ((List.range (k + 1)).map fun i => cf (z (st + i)))), cI (0 + k), cI (z (st + k))], .inl ?_, _, _, rfl⟩
      rw [ex1]
      show sSeq _ _ [cD (.lst Z), cI st, cI sz, cO (iL ((List.range k).map fun i => cf (z (st + i)))), cI (0 + k), v5] = _
      generalize iL ((List.range k).map fun i => cf (z (st + i))) = R at *
      rw [sSeq_nx (ρ' := [cD (.lst Z), cI st, cI sz, cO R, cI (0 + k), cI (z (st + k))]) (by
        rw [sSet_run (r := .fro (.int (z (st + k)))) (by simp only [e2_eq, eVar, List.getElem?_cons_succ, List.getElem?_cons_zero, bnd_ok, gAdd_eq, vI, gIx_lst, ai])]
        rfl)]
      by_cases hm : (z (st + k)).fmod 4 = 1
      · rw [sIf_t (by simp [eVar, gMod_nz, hm]), sApp_eq (ds := R) (d := .int 0) rfl (by simp) ln]
        simp [cf, hm]
      · rw [sIf_f (by simp [eVar, gMod_nz, hm]), sApp_eq (ds := R) (d := .int (cf (z (st + k)))) rfl (by simp [eVar, k4, gMod_nz, cf, hm]) ln]
        simp)
  rw [sSeq_nx (ρ' := _) (by rw [for_run (rng1_run (n := (sz : Int)) (by simp [eVar]) (rOk_of (by omega) (by omega))), Int.toNat_natCast]; exact w)]
  rfl
/-! ### products -/
def mulc : List Int → List Int → Nat → Int
  | [], _, _ => 0
  | a :: as, b, k => a * co b k + (match k with
    | 0 => 0
    | k + 1 => mulc as b k)
theorem mulc_snoc : ∀ (xs : List Int) (a : Int) (b : List Int) (k : Nat), mulc (xs ++ [a]) b k = mulc xs b k + (if xs.length ≤ k then a * co b (k - xs.length) else 0)
  | [], a, b, k => by
    cases k <;> simp [mulc]
  | x :: xs, a, b, 0 => by simp [mulc]
  | x :: xs, a, b, k + 1 => by
    have := mulc_snoc xs a b k
    show x * co b (k + 1) + mulc (xs ++ [a]) b k = x * co b (k + 1) + mulc xs b k + _
    rw [this, List.length_cons, Int.add_assoc]
    congr 2
    by_cases h : xs.length ≤ k
    · rw [if_pos h, if_pos (by omega), show k + 1 - (xs.length + 1) = k - xs.length by omega]
    · rw [if_neg h, if_neg (by omega)]
noncomputable def b_lawProd : FS :=
  sSeq (sSet 2 (eLc [3] (iRng1 (e2 gAdd (e1 gLen (eVar 0)) (e1 gLen (eVar 1)))) (gtName 3) tTrue (eC (.int 0))))
  (sSeq (sFor (iRng1 (e1 gLen (eVar 0))) (gtName 4)
  (sFor (iRng1 (e1 gLen (eVar 1))) (gtName 5)
  (sSetIx 2 (e2 gAdd (eVar 4) (eVar 5)) (e2 gAdd (e2 gIx (eVar 2) (e2 gAdd (eVar 4) (eVar 5))) (e2 gMul (e2 gIx (eVar 0) (eVar 4)) (e2 gIx (eVar 1) (eVar 5)))))))
  (sRetV 2))
theorem prod_run {as bs : List Int} {A B : Nat} (ha : ∀ k, Sm (co as k) A) (hb : ∀ k, Sm (co bs k) B) (hAB : A + B ≤ 100000000) (la : as.length ≤ 4000) (lb : bs.length ≤ 4000) :
    ∃ rs : List Int, fnD 2 4 b_lawProd [.lst (iL as), .lst (iL bs)] = some (.ok (.own (iL rs))) ∧ rs.length = as.length + bs.length ∧ ∀ k, co rs k = mulc as bs k := by
  rw [fnD_run (np := 2) rfl]
  unfold b_lawProd
  show ∃ rs, outR (sSeq _ _ [cD (.lst (iL as)), cD (.lst (iL bs)), none, none, none, none]) = _ ∧ _
  rw [sSeq_nx (ρ' := [cD (.lst (iL as)), cD (.lst (iL bs)), cO (iL (List.replicate (as.length + bs.length) 0)), none, none, none]) (by
    rw [sSet_run (r := .own (iL (List.replicate (as.length + bs.length) 0))) (zeros_run (n := as.length + bs.length) (by
      rw [e2_eq, e1_eq, e1_eq, eVar_fro _ (.lst (iL as)) 0 rfl, eVar_fro _ (.lst (iL bs)) 1 rfl, bnd_ok, bnd_ok, gLen_lst, gLen_lst, bnd_ok, bnd_ok, gAdd_eq, List.length_map, List.length_map, Int.natCast_add]) (by omega))]
    rfl)]
  obtain ⟨ρ', w, rs, v4, v5, h1, h2, rfl⟩ := for_rng (v := 4) (body := sFor (iRng1 (e1 gLen (eVar 1))) (gtName 5) (sSetIx 2 (e2 gAdd (eVar 4) (eVar 5)) (e2 gAdd (e2 gIx (eVar 2) (e2 gAdd (eVar 4) (eVar 5))) (e2 gMul (e2 gIx (eVar 0) (eVar 4)) (e2 gIx (eVar 1) (eVar 5)))))) (a := 0) (n := as.length)
    (ρ := [cD (.lst (iL as)), cD (.lst (iL bs)), cO (iL (List.replicate (as.length + bs.length) 0)), none, none, none])
    (fun i ρ => ∃ (rs : List Int) (v4 v5 : Option Cel), rs.length = as.length + bs.length ∧ (∀ k, co rs k = mulc (as.take i) bs k) ∧ ρ = [cD (.lst (iL as)), cD (.lst (iL bs)), cO (iL rs), none, v4, v5]) ⟨_, none, none, by simp, fun k => by rw [co_repl]; rfl, rfl⟩ (fun i ρ hi ⟨rs, v4, v5, h1, h2, q⟩ => by
      subst q
      obtain ⟨ρ2, w2, rs', v5', g1, g2, rfl⟩ := for_rng (v := 5) (body := sSetIx 2 (e2 gAdd (eVar 4) (eVar 5)) (e2 gAdd (e2 gIx (eVar 2) (e2 gAdd (eVar 4) (eVar 5))) (e2 gMul (e2 gIx (eVar 0) (eVar 4)) (e2 gIx (eVar 1) (eVar 5))))) (a := 0) (n := bs.length)
        (ρ := [cD (.lst (iL as)), cD (.lst (iL bs)), cO (iL rs), none, cI (0 + i), v5])
        (fun j ρ => ∃ (rs' : List Int) (v5 : Option Cel), rs'.length = as.length + bs.length ∧ (∀ k, co rs' k = co rs k + (if i ≤ k ∧ k < i + j then co as i * co bs (k - i) else 0)) ∧ ρ = [cD (.lst (iL as)), cD (.lst (iL bs)), cO (iL rs'), none, cI (0 + i), v5]) ⟨rs, v5, h1, fun k => by rw [if_neg (by omega), Int.add_zero], rfl⟩ (fun j ρ hj ⟨rs', v5, g1, g2, q⟩ => by
          subst q
          have ij : (i : Int) + (j : Int) = ((i + j : Nat) : Int) := by omega
          have a1 : atI (iL rs') ((i : Int) + (j : Int)) = some (.int (co rs' (i + j))) := by rw [ij]; exact atCo (by omega)
          have a2 : atI (iL as) (i : Int) = some (.int (co as i)) := atCo hi
          have a3 : atI (iL bs) (j : Int) = some (.int (co bs j)) := atCo hj
          have sa := ha i
          have sb := hb j
          have m1 : gMul (.fro (.int (co as i))) (.fro (.int (co bs j))) = vI (co as i * co bs j) := gMul_sm hAB
          refine ⟨[cD (.lst (iL as)), cD (.lst (iL bs)), cO (iL (rs'.set (i + j) (co rs' (i + j) + co as i * co bs j))), none, cI (0 + i), cI (0 + j)], .inl ?_, _, _, by rw [List.length_set]; exact g1, fun k => ?_, rfl⟩
          · show sSetIx 2 _ _ [cD (.lst (iL as)), cD (.lst (iL bs)), cO (iL rs'), none, cI (0 + i), cI (0 + j)] = _
            rw [setIx_run (xs := rs') (m := i + j) (v := co rs' (i + j) + co as i * co bs j) rfl (by
              simp only [e2_eq, eVar, List.getElem?_cons_succ, List.getElem?_cons_zero, bnd_ok, gAdd_eq, vI, gIx_bor, gIx_lst, Int.zero_add, a1, a2, a3, m1]) (by
              simp only [e2_eq, eVar, List.getElem?_cons_succ, List.getElem?_cons_zero, bnd_ok, gAdd_eq, vI, Int.zero_add, ij]) (by omega)]
            rfl
          · rw [co_set (by omega)]
            by_cases e : k = i + j
            · subst e
              rw [if_pos rfl, g2, if_neg (by omega), if_pos (by omega), show i + j - i = j by omega, Int.add_zero]
            · rw [if_neg e, g2]
              by_cases c1 : i ≤ k ∧ k < i + j
              · rw [if_pos c1, if_pos (by omega)]
              · rw [if_neg c1, if_neg (by omega)])
      refine ⟨_, .inl (by
        show sFor _ _ _ [cD (.lst (iL as)), cD (.lst (iL bs)), cO (iL rs), none, cI (0 + i), v5] = _
        rw [for_run (rng1_run (n := (bs.length : Int)) (by rw [e1_eq, eVar_fro _ (.lst (iL bs)) 1 rfl, bnd_ok, gLen_lst, List.length_map]) (rOk_of (by omega) (by omega))), Int.toNat_natCast]
        exact w2), rs', cI (0 + i), v5', g1, fun k => ?_, rfl⟩
      have et : as.take (i + 1) = as.take i ++ [co as i] := by
        rw [List.take_succ, co_lt hi]
        rfl
      rw [et, mulc_snoc, List.length_take, Nat.min_eq_left (by omega), g2, h2]
      congr 1
      by_cases c1 : i ≤ k
      · rw [if_pos c1]
        by_cases c2 : k < i + bs.length
        · rw [if_pos ⟨c1, c2⟩]
        · rw [if_neg (by omega), co_ge (xs := bs) (k := k - i) (by omega), Int.mul_zero]
      · rw [if_neg c1, if_neg (by omega)])
  refine ⟨rs, ?_, h1, fun k => by rw [h2, List.take_length]⟩
  rw [sSeq_nx (ρ' := _) (by rw [for_run (rng1_run (n := (as.length : Int)) (by rw [e1_eq, eVar_fro _ (.lst (iL as)) 0 rfl, bnd_ok, gLen_lst, List.length_map]) (rOk_of (by omega) (by omega))), Int.toNat_natCast]; exact w)]
  rfl
end Pd

set_option maxHeartbeats 2000000
/-! PpE: p(x + s). -/
namespace Pd
open PySem PySem.Spec L2
def shc (s : Int) : List Int → Nat → Int
  | [], _ => 0
  | a :: xs, k => (match k with
    | 0 => a
    | k + 1 => shc s xs k) + s * shc s xs k
def syn (s : Int) : List Int → List Int
  | [] => []
  | a :: t => (a + s * co (syn s t) 0) :: syn s t
theorem syn_len (s : Int) : ∀ t, (syn s t).length = t.length
  | [] => rfl
  | a :: t => congrArg (· + 1) (syn_len s t)
theorem shc_syn (s : Int) : ∀ (t : List Int), shc s t 0 = co (syn s t) 0 ∧ ∀ k, shc s t (k + 1) = shc s (syn s t).tail k
  | [] => ⟨by simp [shc, syn, co], fun k => by simp [shc, syn]⟩
  | a :: t => by
    obtain ⟨i0, i1⟩ := shc_syn s t
    refine ⟨?_, fun k => ?_⟩
    · show a + s * shc s t 0 = a + s * co (syn s t) 0
      rw [i0]
    · show shc s t k + s * shc s t (k + 1) = shc s (syn s t) k
      rw [i1 k]
      cases t with
      | nil => simp [shc, syn]
      | cons b t =>
        show shc s (b :: t) k + s * shc s (syn s t) k = shc s ((b + s * co (syn s t) 0) :: syn s t) k
        cases k with
        | zero =>
          rw [i0]
          rfl
        | succ k =>
          rw [i1 k]
          rfl
theorem shc_ge (s : Int) : ∀ (xs : List Int) (k : Nat), xs.length ≤ k → shc s xs k = 0
  | [], k, _ => rfl
  | a :: xs, 0, h => by simp at h
  | a :: xs, k + 1, h => by
    have h' : xs.length ≤ k := by simpa using h
    show shc s xs k + s * shc s xs (k + 1) = 0
    rw [shc_ge s xs k h', shc_ge s xs (k + 1) (by omega)]
    simp
theorem shc_lin (s : Int) : ∀ (xs ys : List Int) (p q : Int), (∀ k, co xs k * p = co ys k * q) → ∀ k, shc s xs k * p = shc s ys k * q
  | [], [], p, q, _, k => by simp [shc]
  | [], y :: ys, p, q, h, k => by
    have ih := shc_lin s [] ys p q (fun k => h (k + 1))
    have h0 := h 0
    have z : ∀ k, shc s ys k * q = 0 := fun k => by rw [← ih k]; simp [shc]
    have y0 : y * q = 0 := by rw [← show co (y :: ys) 0 = y from rfl, ← h0]; simp [co]
    show 0 * p = ((match k with | 0 => y | k + 1 => shc s ys k) + s * shc s ys k) * q
    rw [Int.add_mul, Int.mul_assoc, z k]
    cases k with
    | zero => simp [y0]
    | succ k => simp [z k]
  | x :: xs, [], p, q, h, k => by
    have ih := shc_lin s xs [] p q (fun k => h (k + 1))
    have h0 := h 0
    have z : ∀ k, shc s xs k * p = 0 := fun k => by rw [ih k]; simp [shc]
    have x0 : x * p = 0 := by rw [← show co (x :: xs) 0 = x from rfl, h0]; simp [co]
    show ((match k with | 0 => x | k + 1 => shc s xs k) + s * shc s xs k) * p = 0 * q
    rw [Int.add_mul, Int.mul_assoc, z k]
    cases k with
    | zero => simp [x0]
    | succ k => simp [z k]
  | x :: xs, y :: ys, p, q, h, k => by
    have ih := shc_lin s xs ys p q (fun k => h (k + 1))
    have h0 : x * p = y * q := h 0
    show ((match k with | 0 => x | k + 1 => shc s xs k) + s * shc s xs k) * p = ((match k with | 0 => y | k + 1 => shc s ys k) + s * shc s ys k) * q
    rw [Int.add_mul, Int.add_mul, Int.mul_assoc, Int.mul_assoc, ih k]
    cases k with
    | zero => simp [h0]
    | succ k => simp [ih k]
theorem co_app (xs ys : List Int) (k : Nat) : co (xs ++ ys) k = if k < xs.length then co xs k else co ys (k - xs.length) := by
  unfold co
  rw [List.getD_eq_getElem?_getD, List.getD_eq_getElem?_getD, List.getD_eq_getElem?_getD]
  split
  · rw [List.getElem?_append_left (by assumption)]
  · rw [List.getElem?_append_right (by omega)]
theorem co_drop (xs : List Int) (n k : Nat) : co (xs.drop n) k = co xs (n + k) := by
  unfold co
  rw [List.getD_eq_getElem?_getD, List.getD_eq_getElem?_getD, List.getElem?_drop]
theorem drop_cons {xs : List Int} {j : Nat} (h : j < xs.length) : xs.drop j = co xs j :: xs.drop (j + 1) := by
  rw [List.drop_eq_getElem_cons h]
  have := co_lt h
  rw [List.getElem?_eq_getElem h] at this
  rw [Option.some.inj this]
/-- the inner loop's list when place j is reached -/
def wj (s : Int) (L : List Int) (j : Nat) : List Int := L.take j ++ syn s (L.drop j)
theorem wj_len (s : Int) (L : List Int) (j : Nat) : (wj s L j).length = L.length := by
  unfold wj
  rw [List.length_append, syn_len, List.length_take, List.length_drop]
  omega
theorem wj_co (s : Int) (L : List Int) (j k : Nat) (hj : j ≤ L.length) : co (wj s L j) k = if k < j then co L k else co (syn s (L.drop j)) (k - j) := by
  unfold wj
  rw [co_app, List.length_take, Nat.min_eq_left hj, co_take]
  split
  · rfl
  · rfl
theorem wj_last (s : Int) {L : List Int} {n : Nat} (h : L.length = n + 1) : wj s L n = L := by
  unfold wj
  rw [drop_cons (by omega), List.drop_of_length_le (by omega)]
  show L.take n ++ [co L n + s * co [] 0] = L
  rw [co_nil, Int.mul_zero, Int.add_zero]
  refine co_ext (by simp; omega) fun k => ?_
  rw [co_app, List.length_take, co_take]
  by_cases h1 : k < n
  · rw [if_pos (by omega), if_pos h1]
  · rw [if_neg (by omega), Nat.min_eq_left (by omega)]
    by_cases h2 : k = n
    · subst h2
      rw [Nat.sub_self]
      rfl
    · rw [co_ge (by simp; omega), co_ge (by omega)]
theorem wj_step (s : Int) {L : List Int} {j : Nat} (h : j < L.length) : (wj s L (j + 1)).set j (co (wj s L (j + 1)) j + s * co (wj s L (j + 1)) (j + 1)) = wj s L j := by
  refine co_ext (by rw [List.length_set, wj_len, wj_len]) fun k => ?_
  have c1 : co (wj s L (j + 1)) j = co L j := by rw [wj_co s L (j + 1) j (by omega), if_pos (by omega)]
  have c2 : co (wj s L (j + 1)) (j + 1) = co (syn s (L.drop (j + 1))) 0 := by rw [wj_co s L (j + 1) (j + 1) (by omega), if_neg (by omega), Nat.sub_self]
  rw [co_set (by rw [wj_len]; exact h), c1, c2, wj_co s L j k (by omega)]
  by_cases e : k = j
  · subst e
    rw [if_pos rfl, if_neg (by omega), Nat.sub_self, drop_cons h]
    rfl
  · rw [if_neg e, wj_co s L (j + 1) k (by omega)]
    by_cases h1 : k < j
    · rw [if_pos (by omega), if_pos h1]
    · rw [if_neg (by omega), if_neg h1, drop_cons h, show k - j = (k - (j + 1)) + 1 by omega]
      rfl
theorem Sm.addUp {x y : Int} {m : Nat} (h : Sm x m) (k : Sm y m) : Sm (x + y) (m + 1) := ⟨by
  have h1 := h.lt
  have h2 := k.lt
  have := Int.natAbs_add_le x y
  rw [Nat.pow_succ]
  generalize 2 ^ m = A at *
  omega, Nat.succ_pos _⟩
theorem Sm.zero {m : Nat} (h : 0 < m) : Sm 0 m := ⟨Nat.pow_pos (by decide), h⟩
theorem syn_sm {s : Int} (hs : Sm s 9) {b : Nat} (hb : 0 < b) : ∀ (t : List Int), (∀ k, Sm (co t k) b) → ∀ k, Sm (co (syn s t) k) (b + 10 * t.length)
  | [], _, k => by
    show Sm (co [] k) _
    rw [co_nil]
    exact Sm.zero (by omega)
  | a :: t, h, k => by
    have ih := syn_sm hs hb t fun k => h (k + 1)
    rw [List.length_cons]
    cases k with
    | zero =>
      show Sm (a + s * co (syn s t) 0) _
      have h0 := ih 0
      have h1 : Sm (s * co (syn s t) 0) (9 + (b + 10 * t.length)) := inferInstance
      have h2 : Sm a (9 + (b + 10 * t.length)) := (h 0).up (by omega)
      exact (h2.addUp h1).up (by omega)
    | succ k => exact (ih k).up (by omega)
noncomputable def b_plShift (c e0 : Nat) : FS :=
  sSeq (sSet 2 (e1 gList (e1 (gFld (tbl [(c, 0)])) (eVar 0))))
  (sSeq (sFor (iRng1 (e2 gSub (e1 gLen (eVar 2)) (eC (.int 1)))) (gtName 3)
  (sFor (iRngD (e2 gSub (e1 gLen (eVar 2)) (eC (.int 2))) (e2 gSub (eVar 3) (eC (.int 1)))) (gtName 4)
  (sSetIx 2 (eVar 4) (e2 gAdd (e2 gIx (eVar 2) (eVar 4)) (e2 gMul (eVar 1) (e2 gIx (eVar 2) (e2 gAdd (eVar 4) (eC (.int 1)))))))))
  (sFrz 2 (sRet (eCa 2 (m_pl c e0) (aCons (eVar 2) (aCons (e1 (gFld (tbl [(c, 1)])) (eVar 0)) aNil))))))
theorem shift_run {c e0 : Nat} {xs : List Int} {d s : Int} (hd : d ≠ 0) (hs : Sm s 9) {B : Nat} (hB0 : 0 < B) (hB : B ≤ 1000) (sx : ∀ k, Sm (co xs k) B) (sd : Sm d 8000) (lx : xs.length ≤ 100) :
    ∃ ys : List Int, fnD 2 3 (b_plShift c e0) [pl c xs d, .int s] = some (.ok (.fro (pl c ys d))) ∧ ys.length = xs.length ∧ ∀ k, co ys k = shc s xs k := by
  have hq := plD_pos (xs := xs) hd
  have hcr := pl_cross (xs := xs) hd
  have hlen : (plC xs d).length ≤ xs.length := by rw [plC_len]; exact tsz_le xs
  have sy : ∀ k, Sm (co (plC xs d) k) B := fun k => ⟨Nat.lt_of_le_of_lt (plC_small hd k) (sx k).lt, (sx k).pos⟩
  have sq : Sm (plD xs d) 8000 := ⟨Nat.lt_of_le_of_lt (plD_small hd) sd.lt, sd.pos⟩
  -- the list that the loops leave
  have main : ∃ L : List Int, fnD 2 3 (b_plShift c e0) [.ins c [.tup (iL (plC xs d)), .int (plD xs d)], .int s] = m_pl c e0 [.lst (iL L), .int (plD xs d)] ∧ L.length = (plC xs d).length ∧ ∀ k, co L k = shc s (plC xs d) k := by
    clear hcr
    generalize plC xs d = ys at *
    generalize plD xs d = q at *
    rw [fnD_run (np := 2) rfl]
    unfold b_plShift
    generalize hp : (Dt.ins c [.tup (iL ys), .int q]) = p
    show ∃ L, outR (sSeq _ _ [cD p, cI s, none, none, none]) = _ ∧ _
    have hcf : e1 (gFld (tbl [(c, 0)])) (eVar 0) [cD p, cI s, none, none, none] = some (.ok (.fro (.tup (iL ys)))) := eCf_eq (q := q) (by rw [hp]; rfl)
    rw [sSeq_nx (ρ' := [cD p, cI s, cO (iL ys), none, none]) (by
      rw [sSet_run (r := .own (iL ys)) (by
        show bnd (e1 (gFld (tbl [(c, 0)])) (eVar 0) _) _ = _
        rw [hcf, bnd_ok]
        rfl)]
      rfl)]
    have fin : ∀ (L : List Int) v3 v4, outR (sFrz 2 (sRet (eCa 2 (m_pl c e0) (aCons (eVar 2) (aCons (e1 (gFld (tbl [(c, 1)])) (eVar 0)) aNil)))) [cD p, cI s, cO (iL L), v3, v4]) = m_pl c e0 [.lst (iL L), .int q] ∨ L.length > 100 := fun L v3 v4 => by
      by_cases hL : L.length > 100
      · exact .inr hL
      · left
        rw [sFrz_own (ds := iL L) rfl]
        simp only [List.set_cons_succ, List.set_cons_zero]
        have hdn : e1 (gFld (tbl [(c, 1)])) (eVar 0) [cD p, cI s, cD (.lst (iL L)), v3, v4] = some (.ok (.fro (.int q))) := eDn_eq (t := .tup (iL ys)) (by rw [hp]; rfl)
        have mk := pl_make c e0 (xs := L) (cs := .lst (iL L)) (.inl rfl) (by omega) (d := q) (by omega) (b := 8000) (by omega)
        rw [mk, sRet_fro (d := pl c L q) (by rw [eCa_run (ds := [.lst (iL L), .int q]) (by simp only [aCons_eq, eVar, List.getElem?_cons_succ, List.getElem?_cons_zero, bnd_ok, hdn, frz_fro, aNil_eq]), mk])]
        rfl
    have hl2 : ∀ (L : List Int) v3 v4, e1 gLen (eVar 2) [cD p, cI s, cO (iL L), v3, v4] = vI L.length := fun L v3 v4 => by
      rw [e1_eq, eVar_own _ (iL L) 2 rfl, bnd_ok, gLen_bor, List.length_map]
    obtain ⟨n, hn⟩ : ∃ n, n = ys.length := ⟨_, rfl⟩
    by_cases h0 : n = 0
    · have hy : ys = [] := List.length_eq_zero_iff.mp (by omega)
      subst hy
      refine ⟨[], ?_, rfl, fun k => by rw [co_nil]; rfl⟩
      rw [sSeq_nx (ρ' := [cD p, cI s, cO (iL []), none, none]) (by
        rw [for_run (rng1_run (n := -1) (by rw [e2_eq, hl2]; rfl) (by decide))]
        rfl)]
      exact (fin [] none none).resolve_right (by simp)
    · obtain ⟨m, hm⟩ : ∃ m, n = m + 1 := ⟨n - 1, by omega⟩
      obtain ⟨ρ', w, L, v3, v4, g1, g2, g3, rfl⟩ := for_rng (v := 3) (body := sFor (iRngD (e2 gSub (e1 gLen (eVar 2)) (eC (.int 2))) (e2 gSub (eVar 3) (eC (.int 1)))) (gtName 4)
          (sSetIx 2 (eVar 4) (e2 gAdd (e2 gIx (eVar 2) (eVar 4)) (e2 gMul (eVar 1) (e2 gIx (eVar 2) (e2 gAdd (eVar 4) (eC (.int 1)))))))) (a := 0) (n := m) (ρ := [cD p, cI s, cO (iL ys), none, none])
        (fun i ρ => ∃ (L : List Int) (v3 v4 : Option Cel), L.length = n ∧ (∀ k, shc s ys k = if k < i then co L k else shc s (L.drop i) (k - i)) ∧ (∀ k, Sm (co L k) (B + 10 * n * i)) ∧ ρ = [cD p, cI s, cO (iL L), v3, v4])
        ⟨ys, none, none, hn.symm, fun k => by rw [if_neg (by omega)]; rfl, fun k => by rw [Nat.mul_zero]; exact sy k, rfl⟩ (fun i ρ hi ⟨L, v3, v4, g1, g2, g3, r⟩ => by
          subst r
          have bi : 10 * n * i ≤ 10 * 100 * 100 := Nat.mul_le_mul (by omega) (by omega)
          obtain ⟨ρ2, w2, v5, r2⟩ := for_nx (gt := gtName 4) (body := sSetIx 2 (eVar 4) (e2 gAdd (e2 gIx (eVar 2) (eVar 4)) (e2 gMul (eVar 1) (e2 gIx (eVar 2) (e2 gAdd (eVar 4) (eC (.int 1)))))))
            (fun t ρ => ∃ v5, ρ = [cD p, cI s, cO (iL (wj s L (m - t))), cI (0 + i), v5]) (ds := intsBy ((n : Int) - 2) (-1) (m - i)) (ρ := [cD p, cI s, cO (iL L), cI (0 + i), v4]) 0 ⟨v4, by rw [Nat.sub_zero, wj_last s (by omega)]⟩ (fun t ρ d' hd' ⟨v5, r⟩ => by
              subst r
              rw [Nat.zero_add]
              obtain ⟨ht, rfl⟩ := intsBy_get _ _ _ _ hd'
              obtain ⟨j, hj⟩ : ∃ j : Nat, m - t = j + 1 := ⟨m - t - 1, by omega⟩
              have ej : ((n : Int) - 2 + (t : Int) * -1) = (j : Int) := by omega
              have lw := wj_len s L (j + 1)
              have a1 : atI (iL (wj s L (j + 1))) (j : Int) = some (.int (co (wj s L (j + 1)) j)) := atCo (by omega)
              have a2 : atI (iL (wj s L (j + 1))) ((j : Int) + 1) = some (.int (co (wj s L (j + 1)) (j + 1))) := by
                rw [show (j : Int) + 1 = ((j + 1 : Nat) : Int) by omega]
                exact atCo (by omega)
              have sw : Sm (co (wj s L (j + 1)) (j + 1)) (B + 10 * n * i + 10 * (L.drop (j + 1)).length) := by
                rw [wj_co s L (j + 1) (j + 1) (by omega), if_neg (by omega)]
                exact syn_sm hs (by omega) (L.drop (j + 1)) (fun k => by rw [co_drop]; exact g3 _) _
              have ld : (L.drop (j + 1)).length ≤ 100 := by rw [List.length_drop]; omega
              have m1 : gMul (.fro (.int s)) (.fro (.int (co (wj s L (j + 1)) (j + 1)))) = vI (s * co (wj s L (j + 1)) (j + 1)) := gMul_sm (by omega)
              rw [ej, hj]
              refine ⟨[cD p, cI s, cO (iL (wj s L (j + 1))), cI (0 + i), cI j], [cD p, cI s, cO (iL (wj s L j)), cI (0 + i), cI j], rfl, .inl ?_, cI j, by rw [show m - (t + 1) = j by omega]⟩
              rw [setIx_run (xs := wj s L (j + 1)) (m := j) (v := co (wj s L (j + 1)) j + s * co (wj s L (j + 1)) (j + 1)) rfl (by
                simp only [e2_eq, eVar, List.getElem?_cons_succ, List.getElem?_cons_zero, bnd_ok, gAdd_eq, vI, gIx_bor, a1, a2, eC_eq, m1]) (by simp [eVar]) (by omega), wj_step s (by omega)]
              rfl)
          rw [intsBy_length, Nat.zero_add, show m - (m - i) = i by omega] at r2
          subst r2
          refine ⟨_, .inl (by
            show sFor _ _ _ [cD p, cI s, cO (iL L), cI (0 + i), v4] = _
            rw [for_run (rngD_run (m := (n : Int) - 2) (n := (i : Int) - 1) (by rw [e2_eq, hl2, bnd_ok, eC_eq, bnd_ok, gSub_eq, g1]) (by simp [eVar]) (rOk_of (by omega) (by omega)) (rOk_of (by omega) (by omega))), show ((n : Int) - 2 - ((i : Int) - 1)).toNat = m - i by omega]
            exact w2), wj s L i, cI (0 + i), v5, by rw [wj_len, g1], fun k => ?_, fun k => ?_, rfl⟩
          · rw [g2 k, wj_co s L i k (by omega)]
            by_cases h1 : k < i
            · rw [if_pos h1, if_pos (by omega), if_pos h1]
            · rw [if_neg h1, if_neg h1]
              obtain ⟨i0, i1⟩ := shc_syn s (L.drop i)
              by_cases h2 : k = i
              · subst h2
                rw [Nat.sub_self, if_pos (by omega), i0]
              · rw [if_neg (by omega), show k - i = (k - (i + 1)) + 1 by omega, i1]
                have e : (wj s L i).drop (i + 1) = (syn s (L.drop i)).tail := by
                  unfold wj
                  rw [List.drop_append, List.drop_of_length_le (by rw [List.length_take]; omega), List.nil_append, List.length_take, Nat.min_eq_left (by omega), show i + 1 - i = 1 by omega, List.drop_one]
                rw [e]
          · rw [wj_co s L i k (by omega)]
            split
            · exact (g3 k).up (by rw [Nat.mul_succ]; omega)
            · exact (syn_sm (b := B + 10 * n * i) hs (by omega) (L.drop i) (fun k => by rw [co_drop]; exact g3 _) _).up (by rw [Nat.mul_succ, List.length_drop]; omega))
      refine ⟨L, ?_, by omega, fun k => ?_⟩
      · rw [sSeq_nx (ρ' := _) (by rw [for_run (rng1_run (n := (m : Int)) (by rw [e2_eq, hl2, bnd_ok, eC_eq, bnd_ok, gSub_eq, show (ys.length : Int) - 1 = (m : Int) by omega]) (rOk_of (by omega) (by omega))), Int.toNat_natCast]; exact w)]
        exact (fin L v3 v4).resolve_right (by omega)
      · rw [g2 k]
        by_cases h1 : k < m
        · rw [if_pos h1]
        · rw [if_neg h1, drop_cons (by omega), List.drop_of_length_le (by omega)]
          by_cases h2 : k = m
          · subst h2
            rw [Nat.sub_self]
            show _ = co L k + s * 0
            rw [Int.mul_zero, Int.add_zero]
          · rw [co_ge (by omega), shc_ge s _ _ (by simp; omega)]
  obtain ⟨L, m1, m2, m3⟩ := main
  obtain ⟨zs, hz, hzl⟩ : ∃ zs : List Int, (∀ k, co zs k = shc s xs k) ∧ zs.length = xs.length := ⟨(List.range xs.length).map (shc s xs), fun k => by
    by_cases h : k < xs.length
    · have h1 := co_lt (xs := (List.range xs.length).map (shc s xs)) (k := k) (by simpa using h)
      rw [List.getElem?_map, List.getElem?_range h] at h1
      exact (Option.some.inj h1).symm
    · rw [co_ge (by simp; omega), shc_ge s xs k (by omega)], by simp⟩
  refine ⟨zs, ?_, hzl, hz⟩
  show fnD 2 3 (b_plShift c e0) [.ins c [.tup (iL (plC xs d)), .int (plD xs d)], .int s] = _
  rw [m1, pl_make c e0 (.inl rfl) (by omega) (by omega) (b := 8000) (by omega)]
  rw [pl_same (c := c) (xs := L) (d := plD xs d) (xs' := zs) (d' := d) (by omega) hd fun k => by
    rw [m3, hz]
    exact shc_lin s _ _ _ _ hcr k]
end Pd

set_option maxHeartbeats 2000000
/-! PpF: the law's own p(x + s), by the powers of x + s. -/
namespace Pd
open PySem PySem.Spec L2
def sft (f : Nat → Int) : Nat → Int
  | 0 => 0
  | k + 1 => f k
theorem mulc_two (s : Int) : ∀ (p : List Int) (k : Nat), mulc p [s, 1] k = s * co p k + sft (co p) k
  | [], k => by cases k <;> simp [mulc, co, sft]
  | a :: as, 0 => by
    show a * s + 0 = s * a + 0
    rw [Int.mul_comm]
  | a :: as, 1 => by
    show a * 1 + mulc as [s, 1] 0 = s * co as 0 + a
    rw [mulc_two s as 0]
    show a * 1 + (s * co as 0 + 0) = _
    omega
  | a :: as, k + 2 => by
    show a * co [s, 1] (k + 2) + mulc as [s, 1] (k + 1) = s * co as (k + 1) + co as k
    rw [mulc_two s as (k + 1), co_ge (xs := [s, 1]) (by simp)]
    show a * 0 + (s * co as (k + 1) + co as k) = _
    omega
def Pc (s : Int) : Nat → Nat → Int
  | 0, k => if k = 0 then 1 else 0
  | j + 1, k => s * Pc s j k + sft (Pc s j) k
def Tc (s : Int) : List Int → Nat → Nat → Int
  | [], _, _ => 0
  | a :: xs, j, k => a * Pc s j k + Tc s xs (j + 1) k
theorem Tc_step (s : Int) : ∀ (xs : List Int) (j k : Nat), Tc s xs (j + 1) k = s * Tc s xs j k + sft (Tc s xs j) k
  | [], j, k => by cases k <;> simp [Tc, sft]
  | a :: xs, j, 0 => by
    have ih : Tc s xs (j + 1 + 1) 0 = s * Tc s xs (j + 1) 0 + 0 := Tc_step s xs (j + 1) 0
    show a * (s * Pc s j 0 + 0) + Tc s xs (j + 1 + 1) 0 = s * (a * Pc s j 0 + Tc s xs (j + 1) 0) + 0
    rw [ih]
    generalize Pc s j 0 = p
    generalize Tc s xs (j + 1) 0 = t
    grind
  | a :: xs, j, k + 1 => by
    have ih : Tc s xs (j + 1 + 1) (k + 1) = s * Tc s xs (j + 1) (k + 1) + Tc s xs (j + 1) k := Tc_step s xs (j + 1) (k + 1)
    show a * (s * Pc s j (k + 1) + Pc s j k) + Tc s xs (j + 1 + 1) (k + 1) = s * (a * Pc s j (k + 1) + Tc s xs (j + 1) (k + 1)) + (a * Pc s j k + Tc s xs (j + 1) k)
    rw [ih]
    clear ih
    generalize Pc s j (k + 1) = p
    generalize Pc s j k = q
    generalize Tc s xs (j + 1) (k + 1) = t
    generalize Tc s xs (j + 1) k = u
    grind
theorem Tc_shc (s : Int) : ∀ (xs : List Int) (k : Nat), Tc s xs 0 k = shc s xs k
  | [], k => rfl
  | a :: xs, 0 => by
    have ih := Tc_shc s xs 0
    have st : Tc s xs (0 + 1) 0 = s * Tc s xs 0 0 + 0 := Tc_step s xs 0 0
    show a * 1 + Tc s xs (0 + 1) 0 = a + s * shc s xs 0
    rw [st, ih]
    omega
  | a :: xs, k + 1 => by
    have ih := Tc_shc s xs (k + 1)
    have ih2 := Tc_shc s xs k
    have st : Tc s xs (0 + 1) (k + 1) = s * Tc s xs 0 (k + 1) + Tc s xs 0 k := Tc_step s xs 0 (k + 1)
    show a * 0 + Tc s xs (0 + 1) (k + 1) = shc s xs k + s * shc s xs (k + 1)
    rw [st, ih, ih2]
    omega
theorem Pc_sm {s : Int} (hs : Sm s 9) : ∀ j k, Sm (Pc s j k) (10 * j + 1)
  | 0, k => by
    unfold Pc
    split
    · exact ⟨by decide, by decide⟩
    · exact ⟨by decide, by decide⟩
  | j + 1, k => by
    have ih := Pc_sm hs j
    have i1 := ih k
    have h1 : Sm (s * Pc s j k) (9 + (10 * j + 1)) := inferInstance
    have h2 : Sm (sft (Pc s j) k) (9 + (10 * j + 1)) := by
      cases k with
      | zero => exact Sm.zero (by omega)
      | succ k => exact (ih k).up (by omega)
    exact (h1.addUp h2).up (by omega)
noncomputable def b_lawShift : FS :=
  sSeq (sSet 2 (eLc [3] (iRng1 (e1 gLen (eVar 0))) (gtName 3) tTrue (eC (.int 0))))
  (sSeq (sSet 4 (eLst (aCons (eC (.int 1)) aNil)))
  (sSeq (sFor (iSeq (eVar 0)) (gtName 5)
  (sSeq (sFor (iRng1 (e2 gMin (e1 gLen (eVar 4)) (e1 gLen (eVar 2)))) (gtName 3)
  (sSetIx 2 (eVar 3) (e2 gAdd (e2 gIx (eVar 2) (eVar 3)) (e2 gMul (eVar 5) (e2 gIx (eVar 4) (eVar 3))))))
  (sFrz 4 (sSet 4 (eCa 2 (fnD 2 4 b_lawProd) (aCons (eVar 4) (aCons (eLst (aCons (eVar 1) (aCons (eC (.int 1)) aNil))) aNil)))))))
  (sRetV 2)))
noncomputable abbrev lsBody : FS := sSeq (sFor (iRng1 (e2 gMin (e1 gLen (eVar 4)) (e1 gLen (eVar 2)))) (gtName 3)
  (sSetIx 2 (eVar 3) (e2 gAdd (e2 gIx (eVar 2) (eVar 3)) (e2 gMul (eVar 5) (e2 gIx (eVar 4) (eVar 3))))))
  (sFrz 4 (sSet 4 (eCa 2 (fnD 2 4 b_lawProd) (aCons (eVar 4) (aCons (eLst (aCons (eVar 1) (aCons (eC (.int 1)) aNil))) aNil)))))
theorem ls_step {l : Option Cel} {s : Int} (hs : Sm s 9) {n : Nat} (hn : n ≤ 100) {j : Nat} (hj : j ≤ 100) {a : Int} (ha : Sm a 6) {R Pw : List Int} (hR : R.length = n) (hP : Pw.length ≤ 2 * j + 1) (cP : ∀ k, co Pw k = Pc s j k) (sR : ∀ k, Sm (co R k) (12 * j + 20)) (v3 : Option Cel) :
    ∃ (R' P' : List Int) (v3' : Option Cel), lsBody [l, cI s, cO (iL R), v3, cO (iL Pw), cI a] = some (.nx [l, cI s, cO (iL R'), v3', cO (iL P'), cI a]) ∧ R'.length = n ∧ P'.length ≤ 2 * (j + 1) + 1 ∧ (∀ k, co P' k = Pc s (j + 1) k) ∧ (∀ k, Sm (co R' k) (12 * (j + 1) + 20)) ∧ ∀ k, k < n → co R' k = co R k + a * Pc s j k := by
  obtain ⟨m, hm, hm1, hm2⟩ : ∃ m : Nat, (if (R.length : Int) < (Pw.length : Int) then (R.length : Int) else (Pw.length : Int)) = m ∧ m ≤ R.length ∧ m ≤ Pw.length := ⟨min R.length Pw.length, by split <;> omega, by omega, by omega⟩
  have hm3 : ∀ k, m ≤ k → k < n → Pw.length ≤ k := fun k h1 h2 => by split at hm <;> omega
  have sP : ∀ k, Sm (co Pw k) (10 * j + 1) := fun k => by rw [cP]; exact Pc_sm hs j k
  obtain ⟨ρ2, w2, R', v3', g1, g2, rfl⟩ := for_rng (v := 3) (body := sSetIx 2 (eVar 3) (e2 gAdd (e2 gIx (eVar 2) (eVar 3)) (e2 gMul (eVar 5) (e2 gIx (eVar 4) (eVar 3))))) (a := 0) (n := m)
    (ρ := [l, cI s, cO (iL R), v3, cO (iL Pw), cI a])
    (fun i ρ => ∃ (R' : List Int) (v3 : Option Cel), R'.length = n ∧ (∀ k, co R' k = co R k + (if k < i then a * co Pw k else 0)) ∧ ρ = [l, cI s, cO (iL R'), v3, cO (iL Pw), cI a]) ⟨R, v3, hR, fun k => by rw [if_neg (by omega), Int.add_zero], rfl⟩ (fun i ρ hi ⟨R', v3, g1, g2, q⟩ => by
      subst q
      have a1 : atI (iL R') (i : Int) = some (.int (co R' i)) := atCo (by omega)
      have a2 : atI (iL Pw) (i : Int) = some (.int (co Pw i)) := atCo (by omega)
      have s1 := sP i
      have m1 : gMul (.fro (.int a)) (.fro (.int (co Pw i))) = vI (a * co Pw i) := gMul_sm (by omega)
      refine ⟨[l, cI s, cO (iL (R'.set i (co R' i + a * co Pw i))), cI (0 + i), cO (iL Pw), cI a], .inl ?_, _, _, by rw [List.length_set]; exact g1, fun k => ?_, rfl⟩
      · show sSetIx 2 _ _ [l, cI s, cO (iL R'), cI (0 + i), cO (iL Pw), cI a] = _
        rw [setIx_run (xs := R') (m := i) (v := co R' i + a * co Pw i) rfl (by
          simp only [e2_eq, eVar, List.getElem?_cons_succ, List.getElem?_cons_zero, bnd_ok, gAdd_eq, vI, gIx_bor, Int.zero_add, a1, a2, m1]) (by simp [eVar]) (by omega)]
        rfl
      · rw [co_set (by omega)]
        by_cases e : k = i
        · subst e
          rw [if_pos rfl, g2, if_neg (by omega), if_pos (by omega), Int.add_zero]
        · rw [if_neg e, g2]
          by_cases h : k < i
          · rw [if_pos h, if_pos (by omega)]
          · rw [if_neg h, if_neg (by omega)])
  have s1b : ∀ k, Sm (co [s, 1] k) 9 := fun k => by
    match k with
    | 0 => exact hs
    | 1 => exact ⟨by show (1 : Int).natAbs < 2 ^ 9; decide, by decide⟩
    | k + 2 => rw [co_ge (by simp)]; exact Sm.zero (by decide)
  obtain ⟨P', q1, q2, q3⟩ := prod_run (as := Pw) (bs := [s, 1]) sP s1b (by omega) (by omega) (by show 2 ≤ 4000; decide)
  refine ⟨R', P', v3', ?_, g1, ?_, fun k => ?_, fun k => ?_, fun k hk => ?_⟩
  · show sSeq _ _ [l, cI s, cO (iL R), v3, cO (iL Pw), cI a] = _
    rw [sSeq_nx (ρ' := _) (by
      rw [for_run (rng1_run (n := (m : Int)) (by rw [e2_eq, e1_eq, e1_eq, eVar_own _ (iL Pw) 4 rfl, eVar_own _ (iL R) 2 rfl, bnd_ok, bnd_ok, gLen_bor, gLen_bor, bnd_ok, bnd_ok, gMin_eq, List.length_map, List.length_map, hm]) (rOk_of (by omega) (by omega))), Int.toNat_natCast]
      exact w2)]
    rw [sFrz_own (ds := iL Pw) rfl]
    simp only [List.set_cons_succ, List.set_cons_zero]
    rw [sSet_run (r := .own (iL P')) (by
      rw [eCa_run (ds := [.lst (iL Pw), .lst (iL [s, 1])]) (by simp [eVar, show (2 : Nat) ≤ LINE from by decide]), q1])]
    rfl
  · rw [q2]
    show Pw.length + 2 ≤ _
    omega
  · rw [q3, mulc_two, cP, show co Pw = Pc s j from funext cP]
    rfl
  · rw [g2]
    have h1 := (sR k).up (b := 12 * j + 31) (by omega)
    have h2 : Sm (if k < m then a * co Pw k else 0) (12 * j + 31) := by
      split
      · have := sP k
        exact Sm.up (a := 6 + (10 * j + 1)) inferInstance (by omega)
      · exact Sm.zero (by omega)
    exact h1.addUp h2
  · rw [g2]
    by_cases h : k < m
    · rw [if_pos h, cP]
    · rw [if_neg h, ← cP, co_ge (hm3 k (by omega) hk), Int.mul_zero]
theorem ls_loop {l : Option Cel} {s : Int} (hs : Sm s 9) {n : Nat} (hn : n ≤ 100) : ∀ (xs : List Int) (j : Nat) (R Pw : List Int) (v3 v5 : Option Cel), (∀ x ∈ xs, Sm x 6) → j + xs.length ≤ 100 → R.length = n → Pw.length ≤ 2 * j + 1 → (∀ k, co Pw k = Pc s j k) → (∀ k, Sm (co R k) (12 * j + 20)) →
    ∃ (R' P' : List Int) (v3' v5' : Option Cel), forD (gtName 5) lsBody (iL xs) [l, cI s, cO (iL R), v3, cO (iL Pw), v5] = some (.nx [l, cI s, cO (iL R'), v3', cO (iL P'), v5']) ∧ R'.length = n ∧ (∀ k, Sm (co R' k) (12 * (j + xs.length) + 20)) ∧ ∀ k, k < n → co R' k = co R k + Tc s xs j k
  | [], j, R, Pw, v3, v5, _, _, hR, _, _, sR => ⟨R, Pw, v3, v5, rfl, hR, sR, fun k _ => by show _ = _ + 0; rw [Int.add_zero]⟩
  | a :: xs, j, R, Pw, v3, v5, hx, hj, hR, hP, cP, sR => by
    rw [List.length_cons] at hj
    obtain ⟨R1, P1, v31, w1, r1, r2, r3, r4, r5⟩ := ls_step (l := l) hs hn (j := j) (by omega) (hx a List.mem_cons_self) hR hP cP sR v3
    obtain ⟨R', P', v3', v5', w, t1, t2, t3⟩ := ls_loop (l := l) hs hn xs (j + 1) R1 P1 v31 (cI a) (fun x h => hx x (List.mem_cons_of_mem _ h)) (by omega) r1 r2 r3 r4
    refine ⟨R', P', v3', v5', ?_, t1, fun k => ?_, fun k hk => ?_⟩
    · show forD _ _ (.int a :: iL xs) _ = _
      rw [forD_step (ρ1 := [l, cI s, cO (iL R), v3, cO (iL Pw), cI a]) rfl w1]
      exact w
    · rw [List.length_cons, show j + (xs.length + 1) = j + 1 + xs.length by omega]
      exact t2 k
    · rw [t3 k hk, r5 k hk]
      show _ = co R k + (a * Pc s j k + Tc s xs (j + 1) k)
      omega
theorem lawShift_run {xs : List Int} {s : Int} (hs : Sm s 9) (hx : ∀ x ∈ xs, Sm x 6) (lx : xs.length ≤ 100) :
    ∃ rs : List Int, fnD 2 4 b_lawShift [.lst (iL xs), .int s] = some (.ok (.own (iL rs))) ∧ rs.length = xs.length ∧ (∀ k, co rs k = shc s xs k) ∧ ∀ k, Sm (co rs k) 2000 := by
  obtain ⟨R', P', v3', v5', w, t1, t2, t3⟩ := ls_loop (l := cD (.lst (iL xs))) hs (n := xs.length) lx xs 0 (List.replicate xs.length 0) [1] none none hx (by omega) (by simp) (by simp) (fun k => by
    cases k with
    | zero => rfl
    | succ k => rw [co_succ, co_nil]; simp [Pc]) (fun k => by rw [co_repl]; exact Sm.zero (by omega))
  refine ⟨R', ?_, t1, fun k => ?_, fun k => (t2 k).up (by omega)⟩
  · rw [fnD_run (np := 2) rfl]
    unfold b_lawShift
    show outR (sSeq _ _ [cD (.lst (iL xs)), cI s, none, none, none, none]) = _
    rw [sSeq_nx (ρ' := [cD (.lst (iL xs)), cI s, cO (iL (List.replicate xs.length 0)), none, none, none]) (by
      rw [sSet_run (r := .own (iL (List.replicate xs.length 0))) (zeros_run (n := xs.length) (by rw [e1_eq, eVar_fro _ (.lst (iL xs)) 0 rfl, bnd_ok, gLen_lst, List.length_map]) (by omega))]
      rfl)]
    rw [sSeq_nx (ρ' := [cD (.lst (iL xs)), cI s, cO (iL (List.replicate xs.length 0)), none, cO (iL [1]), none]) (by simp [show (1 : Nat) ≤ LINE from by decide])]
    rw [sSeq_nx (ρ' := _) (by rw [for_run (iSeq_lst (ds := iL xs) rfl)]; exact w)]
    rfl
  · by_cases h : k < xs.length
    · rw [t3 k h, co_repl, Int.zero_add, Tc_shc]
    · rw [co_ge (by omega), shc_ge s xs k (by omega)]
end Pd

set_option maxHeartbeats 2000000
/-! PpG: shifting back. -/
namespace Pd
open PySem PySem.Spec L2
def shF (t : Int) (f : Nat → Int) : Nat → Nat → Int
  | 0, _ => 0
  | n + 1, k => (match k with
    | 0 => f 0
    | k + 1 => shF t (fun i => f (i + 1)) n k) + t * shF t (fun i => f (i + 1)) n k
theorem shc_shF (t : Int) : ∀ (xs : List Int) (k : Nat), shc t xs k = shF t (co xs) xs.length k
  | [], k => rfl
  | a :: xs, k => by
    have ih := shc_shF t xs
    show (match k with | 0 => a | k + 1 => shc t xs k) + t * shc t xs k = (match k with | 0 => co (a :: xs) 0 | k + 1 => shF t (co xs) xs.length k) + t * shF t (co xs) xs.length k
    rw [ih k]
    cases k with
    | zero => rfl
    | succ k =>
      show shc t xs k + _ = shF t (co xs) xs.length k + _
      rw [ih k]
theorem shF_zero (t : Int) : ∀ (n : Nat) (f : Nat → Int) (k : Nat), (∀ i, f i = 0) → shF t f n k = 0
  | 0, f, k, _ => rfl
  | n + 1, f, 0, h => by
    show f 0 + t * shF t (fun i => f (i + 1)) n 0 = 0
    rw [h 0, shF_zero t n _ 0 fun i => h (i + 1), Int.mul_zero, Int.zero_add]
  | n + 1, f, k + 1, h => by
    show shF t (fun i => f (i + 1)) n k + t * shF t (fun i => f (i + 1)) n (k + 1) = 0
    rw [shF_zero t n _ k fun i => h (i + 1), shF_zero t n _ (k + 1) fun i => h (i + 1), Int.mul_zero, Int.zero_add]
theorem shF_lin (t c : Int) : ∀ (n : Nat) (f g h : Nat → Int) (k : Nat), (∀ i, h i = f i + c * g i) → shF t h n k = shF t f n k + c * shF t g n k
  | 0, f, g, h, k, _ => by show (0 : Int) = 0 + c * 0; omega
  | n + 1, f, g, h, 0, e => by
    have i0 := shF_lin t c n (fun i => f (i + 1)) (fun i => g (i + 1)) (fun i => h (i + 1)) 0 fun i => e (i + 1)
    show h 0 + t * shF t (fun i => h (i + 1)) n 0 = (f 0 + t * shF t (fun i => f (i + 1)) n 0) + c * (g 0 + t * shF t (fun i => g (i + 1)) n 0)
    rw [i0, e 0]
    generalize shF t (fun i => f (i + 1)) n 0 = x
    generalize shF t (fun i => g (i + 1)) n 0 = y
    generalize f 0 = u
    generalize g 0 = v
    grind
  | n + 1, f, g, h, k + 1, e => by
    have i0 := shF_lin t c n (fun i => f (i + 1)) (fun i => g (i + 1)) (fun i => h (i + 1)) k fun i => e (i + 1)
    have i1 := shF_lin t c n (fun i => f (i + 1)) (fun i => g (i + 1)) (fun i => h (i + 1)) (k + 1) fun i => e (i + 1)
    show shF t (fun i => h (i + 1)) n k + t * shF t (fun i => h (i + 1)) n (k + 1) = (shF t (fun i => f (i + 1)) n k + t * shF t (fun i => f (i + 1)) n (k + 1)) + c * (shF t (fun i => g (i + 1)) n k + t * shF t (fun i => g (i + 1)) n (k + 1))
    rw [i0, i1]
    generalize shF t (fun i => f (i + 1)) n k = x
    generalize shF t (fun i => g (i + 1)) n k = y
    generalize shF t (fun i => f (i + 1)) n (k + 1) = u
    generalize shF t (fun i => g (i + 1)) n (k + 1) = v
    grind
theorem shF_more (t : Int) : ∀ (n : Nat) (f : Nat → Int) (k : Nat), (∀ i, n ≤ i → f i = 0) → shF t f (n + 1) k = shF t f n k
  | 0, f, k, h => shF_zero t 1 f k fun i => h i (Nat.zero_le _)
  | n + 1, f, 0, h => by
    show f 0 + t * shF t (fun i => f (i + 1)) (n + 1) 0 = f 0 + t * shF t (fun i => f (i + 1)) n 0
    rw [shF_more t n _ 0 fun i hi => h (i + 1) (by omega)]
  | n + 1, f, k + 1, h => by
    show shF t (fun i => f (i + 1)) (n + 1) k + t * shF t (fun i => f (i + 1)) (n + 1) (k + 1) = shF t (fun i => f (i + 1)) n k + t * shF t (fun i => f (i + 1)) n (k + 1)
    rw [shF_more t n _ k fun i hi => h (i + 1) (by omega), shF_more t n _ (k + 1) fun i hi => h (i + 1) (by omega)]
theorem shF_sft (t : Int) (w : Nat → Int) (n k : Nat) : shF t (sft w) (n + 1) k = sft (shF t w n) k + t * shF t w n k := by
  cases k <;> rfl
theorem back (s : Int) : ∀ (xs : List Int) (k : Nat), shF (-s) (shc s xs) xs.length k = co xs k
  | [], k => by rw [co_nil]; rfl
  | a :: xs, k => by
    have ih := back s xs
    have hz : ∀ i, xs.length ≤ i → shc s xs i = 0 := fun i hi => shc_ge s xs i hi
    have l1 := shF_lin (-s) s (xs.length + 1) (fun i => (if i = 0 then a else 0) + 1 * sft (shc s xs) i) (shc s xs) (shc s (a :: xs)) k fun i => by
      cases i with
      | zero => show a + s * shc s xs 0 = a + 1 * 0 + s * shc s xs 0; omega
      | succ i => show shc s xs i + s * shc s xs (i + 1) = 0 + 1 * shc s xs i + s * shc s xs (i + 1); omega
    have l2 := shF_lin (-s) 1 (xs.length + 1) (fun i => if i = 0 then a else 0) (sft (shc s xs)) (fun i => (if i = 0 then a else 0) + 1 * sft (shc s xs) i) k fun i => rfl
    have l3 := shF_sft (-s) (shc s xs) xs.length k
    have l4 := shF_more (-s) xs.length (shc s xs) k hz
    have l5 : shF (-s) (fun i => if i = 0 then a else 0) (xs.length + 1) k = if k = 0 then a else 0 := by
      have z : ∀ k, shF (-s) (fun i => if i + 1 = 0 then a else 0) xs.length k = 0 := fun k => shF_zero _ _ _ _ fun i => if_neg (by omega)
      cases k with
      | zero =>
        show a + -s * shF (-s) (fun i => if i + 1 = 0 then a else 0) xs.length 0 = a
        rw [z, Int.mul_zero, Int.add_zero]
      | succ k =>
        show shF (-s) (fun i => if i + 1 = 0 then a else 0) xs.length k + -s * shF (-s) (fun i => if i + 1 = 0 then a else 0) xs.length (k + 1) = 0
        rw [z, z, Int.mul_zero, Int.add_zero]
    rw [List.length_cons, l1, l2, l3, l4, l5, ih]
    cases k with
    | zero =>
      show a + 1 * (0 + -s * co xs 0) + s * co xs 0 = a
      generalize co xs 0 = x
      grind
    | succ k =>
      show 0 + 1 * (shF (-s) (shc s xs) xs.length k + -s * co xs (k + 1)) + s * co xs (k + 1) = co xs k
      rw [ih]
      generalize co xs (k + 1) = x
      grind
theorem shc_back {s : Int} {xs ys : List Int} (hl : ys.length = xs.length) (h : ∀ k, co ys k = shc s xs k) (k : Nat) : shc (-s) ys k = co xs k := by
  rw [shc_shF, hl, show co ys = shc s xs from funext h, back]
theorem shc_0 : ∀ (xs : List Int) (k : Nat), shc 0 xs k = co xs k
  | [], k => by rw [co_nil]; rfl
  | a :: xs, 0 => by show a + 0 * shc 0 xs 0 = a; omega
  | a :: xs, k + 1 => by
    show shc 0 xs k + 0 * shc 0 xs (k + 1) = co xs k
    rw [shc_0 xs k]
    omega
end Pd

set_option maxHeartbeats 4000000
/-! printed by gen2.py: the plain functions of certsums_k09_poly_shifted and the walk -/
namespace G
open PySem PySem.Spec L2 Pd
def top (i : Nat) : Stmt := PySem.Challenge.pw_certsums_k09_poly_shifted.main.body.getD i (.Pass ⟨0, 0, 0, 0⟩)
abbrev s_law_numbers : Stmt := top 12
abbrev s_law_coefs : Stmt := top 16
abbrev s_trimmed : Stmt := top 8
abbrev s_content : Stmt := top 9
abbrev s_Poly_init : Stmt := inClass (top 10) 0
abbrev s_Poly_shifted : Stmt := inClass (top 10) 15
abbrev s_law_is_integer : Stmt := top 13
abbrev s_law_divisor : Stmt := top 14
abbrev s_law_poly_is : Stmt := top 15
abbrev s_law_product : Stmt := top 17
abbrev s_law_shifted : Stmt := top 18
abbrev s_law : Stmt := top 19
def fls (c : Nat) : List Str := match c with
  | 2 => ["num", "den"]
  | 3 => ["coefs", "den"]
  | _ => []
def tab (K : PySem.W.Frag) : Tab := ⟨fun c => match c with
  | 0 => He.ga K "SummationError"
  | 1 => He.ga K "DivisionByZero"
  | 2 => He.ga K "Fraction"
  | 3 => He.ga K "Poly"
  | _ => 0, fls⟩
/-! ### plain functions -/
noncomputable def b_law_numbers : FS :=
  sSeq (sSet 2 (eC (.int 0)))
  (sSeq (sIf (tB (e2 gGt (e1 gLen (eVar 0)) (eC (.int 0))))
  (sSet 2 (e2 gIx (eVar 0) (eC (.int 0))))
  sNext)
  (sSeq (sSet 3 (e2 gGe (eVar 2) (e2 gPow (eC (.int 10)) (eC (.int 18)))))
  (sSeq (sSet 4 (eLst aNil))
  (sSeq (sFor (iRng1 (eVar 1)) (gtName 5)
  (sIf (tAnd (tTru (eVar 3)) (tB (e2 gGt (eVar 2) (eC (.int 0)))))
  (sSeq (sApp 4 (e2 gMod (eVar 2) (eC (.int 1000000))))
  (sSet 2 (e2 gDiv (eVar 2) (eC (.int 1000000)))))
  (sSeq (sSet 6 (eC (.int 13)))
  (sSeq (sIf (tB (e2 gGt (e1 gLen (eVar 0)) (eC (.int 0))))
  (sSet 6 (e2 gAdd (e2 gIx (eVar 0) (e2 gMod (eVar 5) (e1 gLen (eVar 0)))) (e2 gMul (eC (.int 7919)) (eVar 5))))
  sNext)
  (sApp 4 (e2 gMod (e2 gMod (e2 gMul (e2 gMod (e2 gMul (eVar 6) (eC (.int 48271))) (eC (.int 2147483647))) (eC (.int 69621))) (eC (.int 2147483629))) (eC (.int 1000000))))))))
  (sRetV 4)))))
noncomputable def f_law_numbers : Fn := fnD 2 5 b_law_numbers
noncomputable def b_law_coefs : FS :=
  sSeq (sSet 3 (eLst aNil))
  (sSeq (sFor (iRng1 (eVar 2)) (gtName 4)
  (sSeq (sSet 5 (e2 gIx (eVar 0) (e2 gAdd (eVar 1) (eVar 4))))
  (sIf (tB (e2 gEqS (e2 gMod (eVar 5) (eC (.int 4))) (eC (.int 1))))
  (sApp 3 (eC (.int 0)))
  (sApp 3 (e2 gSub (e2 gMod (e2 gDiv (eVar 5) (eC (.int 4))) (eC (.int 25))) (eC (.int 12)))))))
  (sRetV 3))
noncomputable def f_law_coefs : Fn := fnD 3 3 b_law_coefs
noncomputable def b_trimmed : FS :=
  sSeq (sSet 1 (e1 gLen (eVar 0)))
  (sSeq (sWhile (tAnd (tB (e2 gGt (eVar 1) (eC (.int 0)))) (tB (e2 gEqS (e2 gIx (eVar 0) (e2 gSub (eVar 1) (eC (.int 1)))) (eC (.int 0)))))
  (sAug gSub 1 (eC (.int 1))))
  (sRet (eSl (eVar 0) oNone (oSome (eVar 1)))))
noncomputable def f_trimmed : Fn := fnD 1 1 b_trimmed
noncomputable def b_content : FS :=
  sSeq (sSet 1 (eC (.int 0)))
  (sSeq (sFor (iSeq (eVar 0)) (gtName 2)
  (sSet 1 (e2 gGcd (eVar 1) (eVar 2))))
  (sRetV 1))
noncomputable def f_content : Fn := fnD 1 2 b_content
noncomputable def b_Poly_init : FS :=
  sSeq (sIf (tB (e2 gEqS (eVar 2) (eC (.int 0))))
  (sRaise 1)
  sNext)
  (sSeq (sSet 3 (eCa 1 f_trimmed (aCons (e1 gList (eVar 1)) aNil)))
  (sSeq (sFrz 3 (sSet 4 (e2 gGcd (eCa 1 f_content (aCons (eVar 3) aNil)) (eVar 2))))
  (sSeq (sIf (tB (e2 gLt (eVar 2) (eC (.int 0))))
  (sSet 4 (e1 gNeg (eVar 4)))
  sNext)
  (sSeq (sFrz 3 (sFld 0 3 0 (e1 gTuple (eLc [5] (iSeq (eVar 3)) (gtName 5) tTrue (e2 gDiv (eVar 5) (eVar 4))))))
  (sFld 0 3 1 (e2 gDiv (eVar 2) (eVar 4)))))))
noncomputable def i_Poly : FI := fnI 3 2 2 3 b_Poly_init
noncomputable def m_Poly : Fn := mkD 3 i_Poly
noncomputable def b_Poly_shifted : FS :=
  sSeq (sSet 2 (e1 gList (e1 (gFld (tbl [(3, 0)])) (eVar 0))))
  (sSeq (sFor (iRng1 (e2 gSub (e1 gLen (eVar 2)) (eC (.int 1)))) (gtName 3)
  (sFor (iRngD (e2 gSub (e1 gLen (eVar 2)) (eC (.int 2))) (e2 gSub (eVar 3) (eC (.int 1)))) (gtName 4)
  (sSetIx 2 (eVar 4) (e2 gAdd (e2 gIx (eVar 2) (eVar 4)) (e2 gMul (eVar 1) (e2 gIx (eVar 2) (e2 gAdd (eVar 4) (eC (.int 1)))))))))
  (sFrz 2 (sRet (eCa 2 m_Poly (aCons (eVar 2) (aCons (e1 (gFld (tbl [(3, 1)])) (eVar 0)) aNil))))))
noncomputable def f_Poly_shifted : Fn := fnD 2 3 b_Poly_shifted
noncomputable def b_law_is_integer : FS :=
  sRet (eAnd (e1 (gIsi (ansB "int" [])) (eVar 0)) (eNot (e1 (gIsi (ansB "bool" [])) (eVar 0))))
noncomputable def f_law_is_integer : Fn := fnD 1 0 b_law_is_integer
noncomputable def b_law_divisor : FS :=
  sSeq (sSet 0 (e1 gAbs (eVar 0)))
  (sSeq (sSet 1 (e1 gAbs (eVar 1)))
  (sSeq (sWhile (tB (e2 gGt (eVar 1) (eC (.int 0))))
  (sSeq (sSet 2 (e2 gMod (e1 gInt (eVar 0)) (eVar 1)))
  (sSeq (sSet 0 (eVar 1))
  (sSet 1 (eVar 2)))))
  (sRetV 0)))
noncomputable def f_law_divisor : Fn := fnD 2 1 b_law_divisor
noncomputable def b_law_poly_is : FS :=
  sSeq (sIf (tOr (tNot (tTru (e1 (gIsi (ansC [] [(3, true)])) (eVar 0)))) (tOr (tNot (tTru (e1 (gIsi (ansB "tuple" [])) (e1 (gFld (tbl [(3, 0)])) (eVar 0))))) (tOr (tNot (tTru (eCa 1 f_law_is_integer (aCons (e1 (gFld (tbl [(3, 1)])) (eVar 0)) aNil)))) (tB (e2 gLt (e1 (gFld (tbl [(3, 1)])) (eVar 0)) (eC (.int 1)))))))
  (sRet (eC (.bl false)))
  sNext)
  (sSeq (sSet 3 (e1 (gFld (tbl [(3, 1)])) (eVar 0)))
  (sSeq (sFor (iSeq (e1 (gFld (tbl [(3, 0)])) (eVar 0))) (gtName 4)
  (sSeq (sIf (tNot (tTru (eCa 1 f_law_is_integer (aCons (eVar 4) aNil))))
  (sRet (eC (.bl false)))
  sNext)
  (sSet 3 (eCa 2 f_law_divisor (aCons (eVar 3) (aCons (eVar 4) aNil))))))
  (sSeq (sIf (tOr (tB (e2 gNeS (eVar 3) (eC (.int 1)))) (tAnd (tB (e2 gGt (e1 gLen (e1 (gFld (tbl [(3, 0)])) (eVar 0))) (eC (.int 0)))) (tB (e2 gEqS (e2 gIx (e1 (gFld (tbl [(3, 0)])) (eVar 0)) (e1 gNeg (eC (.int 1)))) (eC (.int 0))))))
  (sRet (eC (.bl false)))
  sNext)
  (sSeq (sSet 5 (e2 gMax (e1 gLen (e1 (gFld (tbl [(3, 0)])) (eVar 0))) (e1 gLen (eVar 1))))
  (sSeq (sSet 6 (e2 gCat (e1 gList (e1 (gFld (tbl [(3, 0)])) (eVar 0))) (eLc [7] (iRng1 (e2 gSub (eVar 5) (e1 gLen (e1 (gFld (tbl [(3, 0)])) (eVar 0))))) (gtName 7) tTrue (eC (.int 0)))))
  (sSeq (sSet 8 (e2 gCat (e1 gList (eVar 1)) (eLc [7] (iRng1 (e2 gSub (eVar 5) (e1 gLen (eVar 1)))) (gtName 7) tTrue (eC (.int 0)))))
  (sSeq (sFor (iRng1 (eVar 5)) (gtName 7)
  (sIf (tB (e2 gNeS (e2 gMul (e2 gIx (eVar 6) (eVar 7)) (eVar 2)) (e2 gMul (e2 gIx (eVar 8) (eVar 7)) (e1 (gFld (tbl [(3, 1)])) (eVar 0)))))
  (sRet (eC (.bl false)))
  sNext))
  (sRet (eC (.bl true))))))))))
noncomputable def f_law_poly_is : Fn := fnD 3 6 b_law_poly_is
noncomputable def b_law_product : FS :=
  sSeq (sSet 2 (eLc [3] (iRng1 (e2 gAdd (e1 gLen (eVar 0)) (e1 gLen (eVar 1)))) (gtName 3) tTrue (eC (.int 0))))
  (sSeq (sFor (iRng1 (e1 gLen (eVar 0))) (gtName 4)
  (sFor (iRng1 (e1 gLen (eVar 1))) (gtName 5)
  (sSetIx 2 (e2 gAdd (eVar 4) (eVar 5)) (e2 gAdd (e2 gIx (eVar 2) (e2 gAdd (eVar 4) (eVar 5))) (e2 gMul (e2 gIx (eVar 0) (eVar 4)) (e2 gIx (eVar 1) (eVar 5)))))))
  (sRetV 2))
noncomputable def f_law_product : Fn := fnD 2 4 b_law_product
noncomputable def b_law_shifted : FS :=
  sSeq (sSet 2 (eLc [3] (iRng1 (e1 gLen (eVar 0))) (gtName 3) tTrue (eC (.int 0))))
  (sSeq (sSet 4 (eLst (aCons (eC (.int 1)) aNil)))
  (sSeq (sFor (iSeq (eVar 0)) (gtName 5)
  (sSeq (sFor (iRng1 (e2 gMin (e1 gLen (eVar 4)) (e1 gLen (eVar 2)))) (gtName 3)
  (sSetIx 2 (eVar 3) (e2 gAdd (e2 gIx (eVar 2) (eVar 3)) (e2 gMul (eVar 5) (e2 gIx (eVar 4) (eVar 3))))))
  (sFrz 4 (sSet 4 (eCa 2 f_law_product (aCons (eVar 4) (aCons (eLst (aCons (eVar 1) (aCons (eC (.int 1)) aNil))) aNil)))))))
  (sRetV 2)))
noncomputable def f_law_shifted : Fn := fnD 2 4 b_law_shifted
noncomputable def b_law : FS :=
  sSeq (sSet 1 (eCa 2 f_law_numbers (aCons (eVar 0) (aCons (eC (.int 10)) aNil))))
  (sSeq (sFrz 1 (sSet 2 (eCa 3 f_law_coefs (aCons (eVar 1) (aCons (eC (.int 4)) (aCons (e2 gMod (e2 gIx (eVar 1) (eC (.int 0))) (eC (.int 7))) aNil))))))
  (sSeq (sSet 3 (e2 gAdd (e2 gMod (e2 gIx (eVar 1) (eC (.int 1))) (eC (.int 9))) (eC (.int 1))))
  (sSeq (sSet 4 (e2 gSub (e2 gMod (e2 gIx (eVar 1) (eC (.int 2))) (eC (.int 31))) (eC (.int 15))))
  (sSeq (sIf (tB (e2 gEqS (e2 gMod (e2 gIx (eVar 1) (eC (.int 3))) (eC (.int 6))) (eC (.int 1))))
  (sSet 4 (e2 gSub (e2 gMod (e2 gIx (eVar 1) (eC (.int 2))) (eC (.int 401))) (eC (.int 200))))
  sNext)
  (sSeq (sFrz 2 (sSet 5 (eCa 2 m_Poly (aCons (eVar 2) (aCons (eVar 3) aNil)))))
  (sSeq (sSet 6 (eMe (tbl [(3, mfn 2 (fun ds => ds) f_Poly_shifted)]) (eVar 5) (aCons (eVar 4) aNil)))
  (sSeq (sFrz 2 (sIf (tOr (tNot (tTru (eCa 3 f_law_poly_is (aCons (eVar 6) (aCons (eCa 2 f_law_shifted (aCons (eVar 2) (aCons (eVar 4) aNil))) (aCons (eVar 3) aNil)))))) (tNot (tTru (eCa 3 f_law_poly_is (aCons (eMe (tbl [(3, mfn 2 (fun ds => ds) f_Poly_shifted)]) (eVar 6) (aCons (e1 gNeg (eVar 4)) aNil)) (aCons (eVar 2) (aCons (eVar 3) aNil)))))))
  (sRet (eC (.bl false)))
  sNext))
  (sFrz 2 (sRet (eAnd (eCa 3 f_law_poly_is (aCons (eMe (tbl [(3, mfn 2 (fun ds => ds) f_Poly_shifted)]) (eVar 5) (aCons (eC (.int 0)) aNil)) (aCons (eVar 2) (aCons (eVar 3) aNil)))) (eCa 3 f_law_poly_is (aCons (eVar 5) (aCons (eVar 2) (aCons (eVar 3) aNil))))))))))))))
noncomputable def f_law : Fn := fnD 1 6 b_law
/-! ### scopes -/
theorem sc_law_numbers : FnScope ["_law_script", "_law_count", "_law_rest", "_law_by_digits", "_law_numbers_here", "_law_k", "_law_cell"] ["_law_script", "_law_count"] (defScope s_law_numbers) := ⟨rfl, rfl, rfl, by decide +kernel, rfl, by decide +kernel, by decide +kernel⟩
theorem sc_law_coefs : FnScope ["_law_numbers_here", "_law_start", "_law_size", "_law_coefs_here", "_law_k", "_law_number"] ["_law_numbers_here", "_law_start", "_law_size"] (defScope s_law_coefs) := ⟨rfl, rfl, rfl, by decide +kernel, rfl, by decide +kernel, by decide +kernel⟩
theorem sc_trimmed : FnScope ["numbers", "size"] ["numbers"] (defScope s_trimmed) := ⟨rfl, rfl, rfl, by decide +kernel, rfl, by decide +kernel, by decide +kernel⟩
theorem sc_content : FnScope ["numbers", "divisor", "number"] ["numbers"] (defScope s_content) := ⟨rfl, rfl, rfl, by decide +kernel, rfl, by decide +kernel, by decide +kernel⟩
theorem sc_Poly_init : FnScope ["self", "coefs", "den", "numbers", "divisor", "number"] ["self", "coefs", "den"] (defScope s_Poly_init) := ⟨rfl, rfl, rfl, by decide +kernel, rfl, by decide +kernel, by decide +kernel⟩
theorem sc_Poly_shifted : FnScope ["self", "step", "numbers", "i", "j"] ["self", "step"] (defScope s_Poly_shifted) := ⟨rfl, rfl, rfl, by decide +kernel, rfl, by decide +kernel, by decide +kernel⟩
theorem sc_law_is_integer : FnScope ["_law_x"] ["_law_x"] (defScope s_law_is_integer) := ⟨rfl, rfl, rfl, by decide +kernel, rfl, by decide +kernel, by decide +kernel⟩
theorem sc_law_divisor : FnScope ["_law_a", "_law_b", "_law_rest"] ["_law_a", "_law_b"] (defScope s_law_divisor) := ⟨rfl, rfl, rfl, by decide +kernel, rfl, by decide +kernel, by decide +kernel⟩
theorem sc_law_poly_is : FnScope ["_law_p", "_law_coefs_here", "_law_den", "_law_shared", "_law_number", "_law_size", "_law_mine", "_law_k", "_law_due"] ["_law_p", "_law_coefs_here", "_law_den"] (defScope s_law_poly_is) := ⟨rfl, rfl, rfl, by decide +kernel, rfl, by decide +kernel, by decide +kernel⟩
theorem sc_law_product : FnScope ["_law_a", "_law_b", "_law_result", "_law_k", "_law_i", "_law_j"] ["_law_a", "_law_b"] (defScope s_law_product) := ⟨rfl, rfl, rfl, by decide +kernel, rfl, by decide +kernel, by decide +kernel⟩
theorem sc_law_shifted : FnScope ["_law_coefs_here", "_law_step", "_law_result", "_law_k", "_law_power", "_law_number"] ["_law_coefs_here", "_law_step"] (defScope s_law_shifted) := ⟨rfl, rfl, rfl, by decide +kernel, rfl, by decide +kernel, by decide +kernel⟩
theorem sc_law : FnScope ["_law_script", "_law_numbers_here", "_law_coefs_here", "_law_den", "_law_step", "_law_p", "_law_q"] ["_law_script"] (defScope s_law) := ⟨rfl, rfl, rfl, by decide +kernel, rfl, by decide +kernel, by decide +kernel⟩
/-! ### what the head tells -/
def h_law_numbers : DefP := ⟨atG "_law_numbers", "_law_numbers", "_law_numbers", defArgs s_law_numbers, defBody s_law_numbers, defScope s_law_numbers, []⟩
def h_law_coefs : DefP := ⟨atG "_law_coefs", "_law_coefs", "_law_coefs", defArgs s_law_coefs, defBody s_law_coefs, defScope s_law_coefs, []⟩
def h_trimmed : DefP := ⟨atG "trimmed", "trimmed", "trimmed", defArgs s_trimmed, defBody s_trimmed, defScope s_trimmed, []⟩
def h_content : DefP := ⟨atG "content", "content", "content", defArgs s_content, defBody s_content, defScope s_content, []⟩
def h_Poly_init : DefP := ⟨atM "Poly" "__init__", "__init__", "Poly.__init__", defArgs s_Poly_init, defBody s_Poly_init, defScope s_Poly_init, [(.int 1)]⟩
def h_Poly_shifted : DefP := ⟨atM "Poly" "shifted", "shifted", "Poly.shifted", defArgs s_Poly_shifted, defBody s_Poly_shifted, defScope s_Poly_shifted, []⟩
def h_law_is_integer : DefP := ⟨atG "_law_is_integer", "_law_is_integer", "_law_is_integer", defArgs s_law_is_integer, defBody s_law_is_integer, defScope s_law_is_integer, []⟩
def h_law_divisor : DefP := ⟨atG "_law_divisor", "_law_divisor", "_law_divisor", defArgs s_law_divisor, defBody s_law_divisor, defScope s_law_divisor, []⟩
def h_law_poly_is : DefP := ⟨atG "_law_poly_is", "_law_poly_is", "_law_poly_is", defArgs s_law_poly_is, defBody s_law_poly_is, defScope s_law_poly_is, []⟩
def h_law_product : DefP := ⟨atG "_law_product", "_law_product", "_law_product", defArgs s_law_product, defBody s_law_product, defScope s_law_product, []⟩
def h_law_shifted : DefP := ⟨atG "_law_shifted", "_law_shifted", "_law_shifted", defArgs s_law_shifted, defBody s_law_shifted, defScope s_law_shifted, []⟩
def h_law : DefP := ⟨atG "law", "law", "law", defArgs s_law, defBody s_law, defScope s_law, []⟩
def fns : List DefP := [h_law_numbers, h_law_coefs, h_trimmed, h_content, h_Poly_init, h_Poly_shifted, h_law_is_integer, h_law_divisor, h_law_poly_is, h_law_product, h_law_shifted, h_law]
def fas : List He.Fa := [.glo "_law_numbers", .glo "_law_coefs", .glo "Poly", .mkr "Poly", .meth "Poly" "shifted", .glo "_law_poly_is", .glo "_law_shifted", .free "len", .free "range", .exc "DivisionByZero", .glo "DivisionByZero", .free "list", .glo "trimmed", .glo "content", .free "tuple", .glo "_law_is_integer", .free "isinstance", .glo "_law_divisor", .free "max", .free "bool", .free "int", .free "abs", .free "min", .glo "_law_product", .glo "law", .cls "Poly", .noat "Poly" "coefs", .noat "Poly" "den"]
def bls : List (PySem.W.Frag → Bool) := [bltB "gcd" "math.gcd", kitCC "Poly" "Poly" true, isi0, isiB "Poly"]
abbrev Fx (K : PySem.W.Frag) (mg : Str → Option Value) : Prop := FxP fas fns bls K mg
section
variable {P : Program} {w : World} {K : PySem.W.Frag} {mg : Str → Option Value} {base : Heap}
theorem cd_Poly (fx : Fx K mg) : ClsD K (tab K) 3 := ⟨fx.cls 25, all_cons (fx.noat 26) (all_cons (fx.noat 27) all_nil), (by show (fls 3).Nodup; decide), (by show (fls 3).length < 1000; decide)⟩
theorem isi_Poly (fx : Fx K mg) : IsiC K (tab K) 3 := isiB_ok (C := "Poly") (fx.cls 25) rfl (fx.bool 2) (fx.bool 3)
theorem ok_law_numbers (fx : Fx K mg) : ∃ fd, FunD K "_law_numbers" "_law_numbers" (defArgs s_law_numbers) (defBody s_law_numbers) (defScope s_law_numbers) (h_law_numbers.dv K) [] ((atG "_law_numbers") K) fd ∧ FnOk P w K mg base (L2.CX P w) 1 ((atG "_law_numbers") K) fd ["_law_script", "_law_count"] (spD K (tab K) f_law_numbers) := by
  obtain ⟨fd, F⟩ := fx.fun_ 0 (d := h_law_numbers)
  exact ⟨fd, F, fnOk_of F sc_law_numbers rfl rfl fun cdv A outer s H E hr tk => pdss_cons (pds_set 2 sc_law_numbers.nd pd_int)
    (pdss_cons (pds_if (pdt_gt (pd_len (fx.free 7) (pd_var 0)) pd_int)
    (pdss_one (pds_set 2 sc_law_numbers.nd (pd_item (pd_var 0) pd_int)))
    pdss_nil)
    (pdss_cons (pds_set 3 sc_law_numbers.nd (pd_ge (pd_var 2) (pd_pow pd_int pd_int)))
    (pdss_cons (pds_set 4 sc_law_numbers.nd (pd_lst pda_nil))
    (pdss_cons (pds_for (vs := [5]) PassesOwn.leaving rfl (pdi_rng1 (fx.free 8) (pd_var 1)) (pg_name sc_law_numbers.nd rfl (by first | exact Or.inl rfl | exact Or.inr rfl) (by first | exact .inl rfl | exact .inr rfl)) (tg_name (by decide))
    (pdss_one (pds_if (pdt_of (pdw_and (pdt_tru (pd_var 3)) (pdw_and1 (pdt_gt (pd_var 2) pd_int))))
    (pdss_cons (pds_app (i := 4) (pd_mod (pd_var 2) pd_int))
    (pdss_one (pds_set 2 sc_law_numbers.nd (pd_div (pd_var 2) pd_int))))
    (pdss_cons (pds_set 6 sc_law_numbers.nd pd_int)
    (pdss_cons (pds_if (pdt_gt (pd_len (fx.free 7) (pd_var 0)) pd_int)
    (pdss_one (pds_set 6 sc_law_numbers.nd (pd_add (pd_item (pd_var 0) (pd_mod (pd_var 5) (pd_len (fx.free 7) (pd_var 0)))) (pd_mul pd_int (pd_var 5)))))
    pdss_nil)
    (pdss_one (pds_app (i := 4) (pd_mod (pd_mod (pd_mul (pd_mod (pd_mul (pd_var 6) pd_int) pd_int) pd_int) pd_int) pd_int))))))))
    (pdss_one (pds_retV 4))))))⟩
theorem dg_law_numbers_2 (fx : Fx K mg) : DefG P w K mg base (tab K) 1 "_law_numbers" 2 (fun ds => ds) f_law_numbers := by
  obtain ⟨fd, F, O⟩ := ok_law_numbers (P := P) (w := w) (base := base) fx
  exact ⟨_, fd, ["_law_script", "_law_count"], fx.glo 0, F.kp, conv_pos F rfl (fun _ _ _ _ _ _ us hl => match us, hl with | [_, _], _ => rfl), O⟩
theorem ok_law_coefs (fx : Fx K mg) : ∃ fd, FunD K "_law_coefs" "_law_coefs" (defArgs s_law_coefs) (defBody s_law_coefs) (defScope s_law_coefs) (h_law_coefs.dv K) [] ((atG "_law_coefs") K) fd ∧ FnOk P w K mg base (L2.CX P w) 1 ((atG "_law_coefs") K) fd ["_law_numbers_here", "_law_start", "_law_size"] (spD K (tab K) f_law_coefs) := by
  obtain ⟨fd, F⟩ := fx.fun_ 1 (d := h_law_coefs)
  exact ⟨fd, F, fnOk_of F sc_law_coefs rfl rfl fun cdv A outer s H E hr tk => pdss_cons (pds_set 3 sc_law_coefs.nd (pd_lst pda_nil))
    (pdss_cons (pds_for (vs := [4]) PassesOwn.leaving rfl (pdi_rng1 (fx.free 8) (pd_var 2)) (pg_name sc_law_coefs.nd rfl (by first | exact Or.inl rfl | exact Or.inr rfl) (by first | exact .inl rfl | exact .inr rfl)) (tg_name (by decide))
    (pdss_cons (pds_set 5 sc_law_coefs.nd (pd_item (pd_var 0) (pd_add (pd_var 1) (pd_var 4))))
    (pdss_one (pds_if (pdt_eqS (pd_mod (pd_var 5) pd_int) pd_int)
    (pdss_one (pds_app (i := 3) pd_int))
    (pdss_one (pds_app (i := 3) (pd_sub (pd_mod (pd_div (pd_var 5) pd_int) pd_int) pd_int)))))))
    (pdss_one (pds_retV 3)))⟩
theorem dg_law_coefs_3 (fx : Fx K mg) : DefG P w K mg base (tab K) 1 "_law_coefs" 3 (fun ds => ds) f_law_coefs := by
  obtain ⟨fd, F, O⟩ := ok_law_coefs (P := P) (w := w) (base := base) fx
  exact ⟨_, fd, ["_law_numbers_here", "_law_start", "_law_size"], fx.glo 1, F.kp, conv_pos F rfl (fun _ _ _ _ _ _ us hl => match us, hl with | [_, _, _], _ => rfl), O⟩
theorem ok_trimmed (fx : Fx K mg) : ∃ fd, FunD K "trimmed" "trimmed" (defArgs s_trimmed) (defBody s_trimmed) (defScope s_trimmed) (h_trimmed.dv K) [] ((atG "trimmed") K) fd ∧ FnOk P w K mg base (L2.CX P w) 1 ((atG "trimmed") K) fd ["numbers"] (spD K (tab K) f_trimmed) := by
  obtain ⟨fd, F⟩ := fx.fun_ 2 (d := h_trimmed)
  exact ⟨fd, F, fnOk_of F sc_trimmed rfl rfl fun cdv A outer s H E hr tk => pdss_cons (pds_set 1 sc_trimmed.nd (pd_len (fx.free 7) (pd_var 0)))
    (pdss_cons (pds_while PassesOwn.leaving (pdt_of (pdw_and (pdt_gt (pd_var 1) pd_int) (pdw_and1 (pdt_eqS (pd_item (pd_var 0) (pd_sub (pd_var 1) pd_int)) pd_int))))
    (pdss_one (pds_augI ip_sub sc_trimmed.nd pd_int)))
    (pdss_one (pds_ret (pd_slice (pd_var 0) pdo_none (pdo_some (pd_var 1))))))⟩
theorem dg_trimmed_1 (fx : Fx K mg) : DefG P w K mg base (tab K) 1 "trimmed" 1 (fun ds => ds) f_trimmed := by
  obtain ⟨fd, F, O⟩ := ok_trimmed (P := P) (w := w) (base := base) fx
  exact ⟨_, fd, ["numbers"], fx.glo 12, F.kp, conv_pos F rfl (fun _ _ _ _ _ _ us hl => match us, hl with | [_], _ => rfl), O⟩
theorem ok_content (fx : Fx K mg) : ∃ fd, FunD K "content" "content" (defArgs s_content) (defBody s_content) (defScope s_content) (h_content.dv K) [] ((atG "content") K) fd ∧ FnOk P w K mg base (L2.CX P w) 1 ((atG "content") K) fd ["numbers"] (spD K (tab K) f_content) := by
  obtain ⟨fd, F⟩ := fx.fun_ 3 (d := h_content)
  exact ⟨fd, F, fnOk_of F sc_content rfl rfl fun cdv A outer s H E hr tk => pdss_cons (pds_set 1 sc_content.nd pd_int)
    (pdss_cons (pds_for (vs := [2]) PassesOwn.leaving rfl (pdi_seq (pd_var 0)) (pg_name sc_content.nd rfl (by first | exact Or.inl rfl | exact Or.inr rfl) (by first | exact .inl rfl | exact .inr rfl)) (tg_name (by decide))
    (pdss_one (pds_set 1 sc_content.nd (pd_gcd (fx.blt 0) (pd_var 1) (pd_var 2)))))
    (pdss_one (pds_retV 1)))⟩
theorem dg_content_1 (fx : Fx K mg) : DefG P w K mg base (tab K) 1 "content" 1 (fun ds => ds) f_content := by
  obtain ⟨fd, F, O⟩ := ok_content (P := P) (w := w) (base := base) fx
  exact ⟨_, fd, ["numbers"], fx.glo 13, F.kp, conv_pos F rfl (fun _ _ _ _ _ _ us hl => match us, hl with | [_], _ => rfl), O⟩
theorem ok_Poly_init (fx : Fx K mg) : ∃ fd, FunD K "__init__" "Poly.__init__" (defArgs s_Poly_init) (defBody s_Poly_init) (defScope s_Poly_init) (h_Poly_init.dv K) [] ((atM "Poly" "__init__") K) fd ∧ FnOk P w K mg base (L2.CX P w) 2 ((atM "Poly" "__init__") K) fd ["self", "coefs", "den"] (spI K (tab K) 3 i_Poly) := by
  obtain ⟨fd, F⟩ := fx.fun_ 4 (d := h_Poly_init)
  exact ⟨fd, F, initOk_of F sc_Poly_init rfl rfl rfl fun cdv A outer s H E hr tk => pdss_cons (pds_if (pdt_eqS (pd_var 2) pd_int)
    (pdss_one (pds_raise 1 rfl tk (fx.exc 9) (fx.glo 10)))
    pdss_nil)
    (pdss_cons (pds_set 3 sc_Poly_init.nd (pd_callG (dg_trimmed_1 fx) (hr.mono (by decide)) tk (pda_cons (pd_listf (fx.free 11) (pd_var 1)) pda_nil)))
    (pdss_cons (pds_frz 3 (pds_set 4 sc_Poly_init.nd (pd_gcd (fx.blt 0) (pd_callG (dg_content_1 fx) (hr.mono (by decide)) tk (pda_cons (pd_var 3) pda_nil)) (pd_var 2))))
    (pdss_cons (pds_if (pdt_lt (pd_var 2) pd_int)
    (pdss_one (pds_set 4 sc_Poly_init.nd (pd_neg (pd_var 4))))
    pdss_nil)
    (pdss_cons (pds_frz 3 (pds_fld (i := 0) (cd_Poly fx) rfl (pd_tuplef (fx.free 14) (pd_lc (own := [("number", 5)]) rfl sc_Poly_init.nd (pdi_seq (pd_var 3)) (blkOk_by (by kernel_rfl)) (tg_name (by decide)) (fun s0 H1 C0 cl0 fp0 => pg_name sc_Poly_init.nd rfl (by first | exact Or.inl rfl | exact Or.inr rfl) (by first | exact .inl rfl | exact .inr rfl)) (fun s0 H1 C0 cl0 fp0 => pdts_nil) (fun s0 H1 C0 cl0 fp0 => pd_div (pd_var 5) (pd_var 4))))))
    (pdss_one (pds_fld (i := 0) (cd_Poly fx) rfl (pd_div (pd_var 2) (pd_var 4))))))))⟩
theorem cg_Poly_2 (fx : Fx K mg) : ClsG P w K mg base (tab K) 2 "Poly" 3 2 (fun ds => ds) i_Poly := by
  obtain ⟨fd, F, O⟩ := ok_Poly_init (P := P) (w := w) (base := base) fx
  exact ⟨_, fd, ["self", "coefs", "den"], fx.glo 2, (fx.mkr 3).kp, fx.mkr 3, convI_full (convI_dfl F 2 1 [] (fun Z => .nil) (List.cons_ne_nil _ _) rfl (fun _ _ _ _ _ _ _ us its h1 h2 => match us, h1, its, h2 with | [_, _, _], _, [_], _ => ⟨_, rfl, rfl⟩)), O⟩
theorem ok_Poly_shifted (fx : Fx K mg) : ∃ fd, FunD K "shifted" "Poly.shifted" (defArgs s_Poly_shifted) (defBody s_Poly_shifted) (defScope s_Poly_shifted) (h_Poly_shifted.dv K) [] ((atM "Poly" "shifted") K) fd ∧ FnOk P w K mg base (L2.CX P w) 4 ((atM "Poly" "shifted") K) fd ["self", "step"] (spD K (tab K) f_Poly_shifted) := by
  obtain ⟨fd, F⟩ := fx.fun_ 5 (d := h_Poly_shifted)
  exact ⟨fd, F, fnOk_of F sc_Poly_shifted rfl rfl fun cdv A outer s H E hr tk => pdss_cons (pds_set 2 sc_Poly_shifted.nd (pd_listf (fx.free 11) (pd_fld (tbl [(3, 0)]) (tbl_all (all_cons (⟨(cd_Poly fx), rfl⟩) all_nil)) (pd_var 0))))
    (pdss_cons (pds_for (vs := [3]) PassesOwn.leaving rfl (pdi_rng1 (fx.free 8) (pd_sub (pd_len (fx.free 7) (pd_var 2)) pd_int)) (pg_name sc_Poly_shifted.nd rfl (by first | exact Or.inl rfl | exact Or.inr rfl) (by first | exact .inl rfl | exact .inr rfl)) (tg_name (by decide))
    (pdss_one (pds_for (vs := [4]) PassesOwn.leaving rfl (pdi_rngD (fx.free 8) (pd_sub (pd_len (fx.free 7) (pd_var 2)) pd_int) (pd_sub (pd_var 3) pd_int)) (pg_name sc_Poly_shifted.nd rfl (by first | exact Or.inl rfl | exact Or.inr rfl) (by first | exact .inl rfl | exact .inr rfl)) (tg_name (by decide))
    (pdss_one (pds_setIx (i := 2) (pd_add (pd_item (pd_var 2) (pd_var 4)) (pd_mul (pd_var 1) (pd_item (pd_var 2) (pd_add (pd_var 4) pd_int)))) (pd_var 4))))))
    (pdss_one (pds_frz 2 (pds_ret (pd_callCG (cg_Poly_2 fx) (hr.mono (by decide)) tk (pda_cons (pd_var 2) (pda_cons (pd_fld (tbl [(3, 1)]) (tbl_all (all_cons (⟨(cd_Poly fx), rfl⟩) all_nil)) (pd_var 0)) pda_nil)))))))⟩
theorem mo_Poly_shifted_2 (fx : Fx K mg) : MethOk P w K mg base (tab K) 4 3 "shifted" 2 (fun ds => ds) f_Poly_shifted := by
  obtain ⟨fd, F, O⟩ := ok_Poly_shifted (P := P) (w := w) (base := base) fx
  exact ⟨cd_Poly fx, (by show ("shifted" : Str) ∉ fls 3; decide), _, fd, ["self", "step"], fx.meth 4, conv_pos F rfl (fun _ _ _ _ _ _ us hl => match us, hl with | [_, _], _ => rfl), O⟩
theorem ok_law_is_integer (fx : Fx K mg) : ∃ fd, FunD K "_law_is_integer" "_law_is_integer" (defArgs s_law_is_integer) (defBody s_law_is_integer) (defScope s_law_is_integer) (h_law_is_integer.dv K) [] ((atG "_law_is_integer") K) fd ∧ FnOk P w K mg base (L2.CX P w) 1 ((atG "_law_is_integer") K) fd ["_law_x"] (spD K (tab K) f_law_is_integer) := by
  obtain ⟨fd, F⟩ := fx.fun_ 6 (d := h_law_is_integer)
  exact ⟨fd, F, fnOk_of F sc_law_is_integer rfl rfl fun cdv A outer s H E hr tk => pdss_one (pds_ret (pd_and' (pd_isT "int" [] (all_nil) (fx.free 16) (fx.free 20) (pd_var 0) PyProof.Rows.boot_int) (pd_one (pd_not (pd_isT "bool" [] (all_nil) (fx.free 16) (fx.free 19) (pd_var 0) PyProof.Rows.boot_bool)))))⟩
theorem dg_law_is_integer_1 (fx : Fx K mg) : DefG P w K mg base (tab K) 1 "_law_is_integer" 1 (fun ds => ds) f_law_is_integer := by
  obtain ⟨fd, F, O⟩ := ok_law_is_integer (P := P) (w := w) (base := base) fx
  exact ⟨_, fd, ["_law_x"], fx.glo 15, F.kp, conv_pos F rfl (fun _ _ _ _ _ _ us hl => match us, hl with | [_], _ => rfl), O⟩
theorem ok_law_divisor (fx : Fx K mg) : ∃ fd, FunD K "_law_divisor" "_law_divisor" (defArgs s_law_divisor) (defBody s_law_divisor) (defScope s_law_divisor) (h_law_divisor.dv K) [] ((atG "_law_divisor") K) fd ∧ FnOk P w K mg base (L2.CX P w) 1 ((atG "_law_divisor") K) fd ["_law_a", "_law_b"] (spD K (tab K) f_law_divisor) := by
  obtain ⟨fd, F⟩ := fx.fun_ 7 (d := h_law_divisor)
  exact ⟨fd, F, fnOk_of F sc_law_divisor rfl rfl fun cdv A outer s H E hr tk => pdss_cons (pds_set 0 sc_law_divisor.nd (pd_abs (fx.free 21) (pd_var 0)))
    (pdss_cons (pds_set 1 sc_law_divisor.nd (pd_abs (fx.free 21) (pd_var 1)))
    (pdss_cons (pds_while PassesOwn.leaving (pdt_gt (pd_var 1) pd_int)
    (pdss_cons (pds_set 2 sc_law_divisor.nd (pd_mod (pd_intf (fx.free 20) (pd_var 0)) (pd_var 1)))
    (pdss_cons (pds_set 0 sc_law_divisor.nd (pd_var 1))
    (pdss_one (pds_set 1 sc_law_divisor.nd (pd_var 2))))))
    (pdss_one (pds_retV 0))))⟩
theorem dg_law_divisor_2 (fx : Fx K mg) : DefG P w K mg base (tab K) 1 "_law_divisor" 2 (fun ds => ds) f_law_divisor := by
  obtain ⟨fd, F, O⟩ := ok_law_divisor (P := P) (w := w) (base := base) fx
  exact ⟨_, fd, ["_law_a", "_law_b"], fx.glo 17, F.kp, conv_pos F rfl (fun _ _ _ _ _ _ us hl => match us, hl with | [_, _], _ => rfl), O⟩
theorem ok_law_poly_is (fx : Fx K mg) : ∃ fd, FunD K "_law_poly_is" "_law_poly_is" (defArgs s_law_poly_is) (defBody s_law_poly_is) (defScope s_law_poly_is) (h_law_poly_is.dv K) [] ((atG "_law_poly_is") K) fd ∧ FnOk P w K mg base (L2.CX P w) 2 ((atG "_law_poly_is") K) fd ["_law_p", "_law_coefs_here", "_law_den"] (spD K (tab K) f_law_poly_is) := by
  obtain ⟨fd, F⟩ := fx.fun_ 8 (d := h_law_poly_is)
  exact ⟨fd, F, fnOk_of F sc_law_poly_is rfl rfl fun cdv A outer s H E hr tk => pdss_cons (pds_if (pdt_of (pdw_or (pdt_not (pdt_tru (pd_isC 3 [] [(3, true)] (all_nil) (all_cons (⟨of_decide_eq_true (fx.bool 1), (isi_Poly fx)⟩) all_nil) (fx.free 16) (fx.glo 2) (pd_var 0)))) (pdw_or (pdt_not (pdt_tru (pd_isT "tuple" [] (all_nil) (fx.free 16) (fx.free 14) (pd_fld (tbl [(3, 0)]) (tbl_all (all_cons (⟨(cd_Poly fx), rfl⟩) all_nil)) (pd_var 0)) PyProof.Rows.boot_tuple))) (pdw_or (pdt_not (pdt_tru (pd_callG (dg_law_is_integer_1 fx) (hr.mono (by decide)) tk (pda_cons (pd_fld (tbl [(3, 1)]) (tbl_all (all_cons (⟨(cd_Poly fx), rfl⟩) all_nil)) (pd_var 0)) pda_nil)))) (pdw_or1 (pdt_lt (pd_fld (tbl [(3, 1)]) (tbl_all (all_cons (⟨(cd_Poly fx), rfl⟩) all_nil)) (pd_var 0)) pd_int))))))
    (pdss_one (pds_ret pd_bl))
    pdss_nil)
    (pdss_cons (pds_set 3 sc_law_poly_is.nd (pd_fld (tbl [(3, 1)]) (tbl_all (all_cons (⟨(cd_Poly fx), rfl⟩) all_nil)) (pd_var 0)))
    (pdss_cons (pds_for (vs := [4]) PassesOwn.leaving rfl (pdi_seq (pd_fld (tbl [(3, 0)]) (tbl_all (all_cons (⟨(cd_Poly fx), rfl⟩) all_nil)) (pd_var 0))) (pg_name sc_law_poly_is.nd rfl (by first | exact Or.inl rfl | exact Or.inr rfl) (by first | exact .inl rfl | exact .inr rfl)) (tg_name (by decide))
    (pdss_cons (pds_if (pdt_not (pdt_tru (pd_callG (dg_law_is_integer_1 fx) (hr.mono (by decide)) tk (pda_cons (pd_var 4) pda_nil))))
    (pdss_one (pds_ret pd_bl))
    pdss_nil)
    (pdss_one (pds_set 3 sc_law_poly_is.nd (pd_callG (dg_law_divisor_2 fx) (hr.mono (by decide)) tk (pda_cons (pd_var 3) (pda_cons (pd_var 4) pda_nil)))))))
    (pdss_cons (pds_if (pdt_of (pdw_or (pdt_neS (pd_var 3) pd_int) (pdw_or1 (pdt_of (pdw_and (pdt_gt (pd_len (fx.free 7) (pd_fld (tbl [(3, 0)]) (tbl_all (all_cons (⟨(cd_Poly fx), rfl⟩) all_nil)) (pd_var 0))) pd_int) (pdw_and1 (pdt_eqS (pd_item (pd_fld (tbl [(3, 0)]) (tbl_all (all_cons (⟨(cd_Poly fx), rfl⟩) all_nil)) (pd_var 0)) (pd_neg pd_int)) pd_int)))))))
    (pdss_one (pds_ret pd_bl))
    pdss_nil)
    (pdss_cons (pds_set 5 sc_law_poly_is.nd (pd_max rfl (fx.free 18) (pd_len (fx.free 7) (pd_fld (tbl [(3, 0)]) (tbl_all (all_cons (⟨(cd_Poly fx), rfl⟩) all_nil)) (pd_var 0))) (pd_len (fx.free 7) (pd_var 1))))
    (pdss_cons (pds_set 6 sc_law_poly_is.nd (pd_cat (pd_listf (fx.free 11) (pd_fld (tbl [(3, 0)]) (tbl_all (all_cons (⟨(cd_Poly fx), rfl⟩) all_nil)) (pd_var 0))) (pd_lc (own := [("_law_k", 7)]) rfl sc_law_poly_is.nd (pdi_rng1 (fx.free 8) (pd_sub (pd_var 5) (pd_len (fx.free 7) (pd_fld (tbl [(3, 0)]) (tbl_all (all_cons (⟨(cd_Poly fx), rfl⟩) all_nil)) (pd_var 0))))) (blkOk_by (by kernel_rfl)) (tg_name (by decide)) (fun s0 H1 C0 cl0 fp0 => pg_name sc_law_poly_is.nd rfl (by first | exact Or.inl rfl | exact Or.inr rfl) (by first | exact .inl rfl | exact .inr rfl)) (fun s0 H1 C0 cl0 fp0 => pdts_nil) (fun s0 H1 C0 cl0 fp0 => pd_int))))
    (pdss_cons (pds_set 8 sc_law_poly_is.nd (pd_cat (pd_listf (fx.free 11) (pd_var 1)) (pd_lc (own := [("_law_k", 7)]) rfl sc_law_poly_is.nd (pdi_rng1 (fx.free 8) (pd_sub (pd_var 5) (pd_len (fx.free 7) (pd_var 1)))) (blkOk_by (by kernel_rfl)) (tg_name (by decide)) (fun s0 H1 C0 cl0 fp0 => pg_name sc_law_poly_is.nd rfl (by first | exact Or.inl rfl | exact Or.inr rfl) (by first | exact .inl rfl | exact .inr rfl)) (fun s0 H1 C0 cl0 fp0 => pdts_nil) (fun s0 H1 C0 cl0 fp0 => pd_int))))
    (pdss_cons (pds_for (vs := [7]) PassesOwn.leaving rfl (pdi_rng1 (fx.free 8) (pd_var 5)) (pg_name sc_law_poly_is.nd rfl (by first | exact Or.inl rfl | exact Or.inr rfl) (by first | exact .inl rfl | exact .inr rfl)) (tg_name (by decide))
    (pdss_one (pds_if (pdt_neS (pd_mul (pd_item (pd_var 6) (pd_var 7)) (pd_var 2)) (pd_mul (pd_item (pd_var 8) (pd_var 7)) (pd_fld (tbl [(3, 1)]) (tbl_all (all_cons (⟨(cd_Poly fx), rfl⟩) all_nil)) (pd_var 0))))
    (pdss_one (pds_ret pd_bl))
    pdss_nil)))
    (pdss_one (pds_ret pd_bl)))))))))⟩
theorem dg_law_poly_is_3 (fx : Fx K mg) : DefG P w K mg base (tab K) 2 "_law_poly_is" 3 (fun ds => ds) f_law_poly_is := by
  obtain ⟨fd, F, O⟩ := ok_law_poly_is (P := P) (w := w) (base := base) fx
  exact ⟨_, fd, ["_law_p", "_law_coefs_here", "_law_den"], fx.glo 5, F.kp, conv_pos F rfl (fun _ _ _ _ _ _ us hl => match us, hl with | [_, _, _], _ => rfl), O⟩
theorem ok_law_product (fx : Fx K mg) : ∃ fd, FunD K "_law_product" "_law_product" (defArgs s_law_product) (defBody s_law_product) (defScope s_law_product) (h_law_product.dv K) [] ((atG "_law_product") K) fd ∧ FnOk P w K mg base (L2.CX P w) 1 ((atG "_law_product") K) fd ["_law_a", "_law_b"] (spD K (tab K) f_law_product) := by
  obtain ⟨fd, F⟩ := fx.fun_ 9 (d := h_law_product)
  exact ⟨fd, F, fnOk_of F sc_law_product rfl rfl fun cdv A outer s H E hr tk => pdss_cons (pds_setLc (own := [("_law_k", 3)]) rfl sc_law_product.nd rfl rfl (sw_true rfl rfl rfl (by decide +kernel)) (pdi_rng1 (fx.free 8) (pd_add (pd_len (fx.free 7) (pd_var 0)) (pd_len (fx.free 7) (pd_var 1)))) (blkOk_by (by kernel_rfl)) (tg_name (by decide)) (fun s0 H1 C0 cl0 fp0 => pg_name sc_law_product.nd rfl (by first | exact Or.inl rfl | exact Or.inr rfl) (by first | exact .inl rfl | exact .inr rfl)) (fun s0 H1 C0 cl0 fp0 => pdts_nil) (fun s0 H1 C0 cl0 fp0 => pd_int))
    (pdss_cons (pds_for (vs := [4]) PassesOwn.leaving rfl (pdi_rng1 (fx.free 8) (pd_len (fx.free 7) (pd_var 0))) (pg_name sc_law_product.nd rfl (by first | exact Or.inl rfl | exact Or.inr rfl) (by first | exact .inl rfl | exact .inr rfl)) (tg_name (by decide))
    (pdss_one (pds_for (vs := [5]) PassesOwn.leaving rfl (pdi_rng1 (fx.free 8) (pd_len (fx.free 7) (pd_var 1))) (pg_name sc_law_product.nd rfl (by first | exact Or.inl rfl | exact Or.inr rfl) (by first | exact .inl rfl | exact .inr rfl)) (tg_name (by decide))
    (pdss_one (pds_setIx (i := 2) (pd_add (pd_item (pd_var 2) (pd_add (pd_var 4) (pd_var 5))) (pd_mul (pd_item (pd_var 0) (pd_var 4)) (pd_item (pd_var 1) (pd_var 5)))) (pd_add (pd_var 4) (pd_var 5)))))))
    (pdss_one (pds_retV 2)))⟩
theorem dg_law_product_2 (fx : Fx K mg) : DefG P w K mg base (tab K) 1 "_law_product" 2 (fun ds => ds) f_law_product := by
  obtain ⟨fd, F, O⟩ := ok_law_product (P := P) (w := w) (base := base) fx
  exact ⟨_, fd, ["_law_a", "_law_b"], fx.glo 23, F.kp, conv_pos F rfl (fun _ _ _ _ _ _ us hl => match us, hl with | [_, _], _ => rfl), O⟩
theorem ok_law_shifted (fx : Fx K mg) : ∃ fd, FunD K "_law_shifted" "_law_shifted" (defArgs s_law_shifted) (defBody s_law_shifted) (defScope s_law_shifted) (h_law_shifted.dv K) [] ((atG "_law_shifted") K) fd ∧ FnOk P w K mg base (L2.CX P w) 2 ((atG "_law_shifted") K) fd ["_law_coefs_here", "_law_step"] (spD K (tab K) f_law_shifted) := by
  obtain ⟨fd, F⟩ := fx.fun_ 10 (d := h_law_shifted)
  exact ⟨fd, F, fnOk_of F sc_law_shifted rfl rfl fun cdv A outer s H E hr tk => pdss_cons (pds_setLc (own := [("_law_k", 3)]) rfl sc_law_shifted.nd rfl rfl (sw_true rfl rfl rfl (by decide +kernel)) (pdi_rng1 (fx.free 8) (pd_len (fx.free 7) (pd_var 0))) (blkOk_by (by kernel_rfl)) (tg_name (by decide)) (fun s0 H1 C0 cl0 fp0 => pg_name sc_law_shifted.nd rfl (by first | exact Or.inl rfl | exact Or.inr rfl) (by first | exact .inl rfl | exact .inr rfl)) (fun s0 H1 C0 cl0 fp0 => pdts_nil) (fun s0 H1 C0 cl0 fp0 => pd_int))
    (pdss_cons (pds_set 4 sc_law_shifted.nd (pd_lst (pda_cons pd_int pda_nil)))
    (pdss_cons (pds_for (vs := [5]) PassesOwn.leaving rfl (pdi_seq (pd_var 0)) (pg_name sc_law_shifted.nd rfl (by first | exact Or.inl rfl | exact Or.inr rfl) (by first | exact .inl rfl | exact .inr rfl)) (tg_name (by decide))
    (pdss_cons (pds_for (vs := [3]) PassesOwn.leaving rfl (pdi_rng1 (fx.free 8) (pd_min rfl (fx.free 22) (pd_len (fx.free 7) (pd_var 4)) (pd_len (fx.free 7) (pd_var 2)))) (pg_name sc_law_shifted.nd rfl (by first | exact Or.inl rfl | exact Or.inr rfl) (by first | exact .inl rfl | exact .inr rfl)) (tg_name (by decide))
    (pdss_one (pds_setIx (i := 2) (pd_add (pd_item (pd_var 2) (pd_var 3)) (pd_mul (pd_var 5) (pd_item (pd_var 4) (pd_var 3)))) (pd_var 3))))
    (pdss_one (pds_frz 4 (pds_set 4 sc_law_shifted.nd (pd_callG (dg_law_product_2 fx) (hr.mono (by decide)) tk (pda_cons (pd_var 4) (pda_cons (pd_lst (pda_cons (pd_var 1) (pda_cons pd_int pda_nil))) pda_nil))))))))
    (pdss_one (pds_retV 2))))⟩
theorem dg_law_shifted_2 (fx : Fx K mg) : DefG P w K mg base (tab K) 2 "_law_shifted" 2 (fun ds => ds) f_law_shifted := by
  obtain ⟨fd, F, O⟩ := ok_law_shifted (P := P) (w := w) (base := base) fx
  exact ⟨_, fd, ["_law_coefs_here", "_law_step"], fx.glo 6, F.kp, conv_pos F rfl (fun _ _ _ _ _ _ us hl => match us, hl with | [_, _], _ => rfl), O⟩
theorem ok_law (fx : Fx K mg) {f : Addr} {fd : FuncData} (F : FunD K "law" "law" (defArgs s_law) (defBody s_law) (defScope s_law) [] [] f fd) : FnOk P w K mg base (L2.CX P w) 5 f fd ["_law_script"] (spD K (tab K) f_law) :=
  fnOk_of F sc_law rfl rfl fun cdv A outer s H E hr tk => pdss_cons (pds_set 1 sc_law.nd (pd_callG (dg_law_numbers_2 fx) (hr.mono (by decide)) tk (pda_cons (pd_var 0) (pda_cons pd_int pda_nil))))
    (pdss_cons (pds_frz 1 (pds_set 2 sc_law.nd (pd_callG (dg_law_coefs_3 fx) (hr.mono (by decide)) tk (pda_cons (pd_var 1) (pda_cons pd_int (pda_cons (pd_mod (pd_item (pd_var 1) pd_int) pd_int) pda_nil))))))
    (pdss_cons (pds_set 3 sc_law.nd (pd_add (pd_mod (pd_item (pd_var 1) pd_int) pd_int) pd_int))
    (pdss_cons (pds_set 4 sc_law.nd (pd_sub (pd_mod (pd_item (pd_var 1) pd_int) pd_int) pd_int))
    (pdss_cons (pds_if (pdt_eqS (pd_mod (pd_item (pd_var 1) pd_int) pd_int) pd_int)
    (pdss_one (pds_set 4 sc_law.nd (pd_sub (pd_mod (pd_item (pd_var 1) pd_int) pd_int) pd_int)))
    pdss_nil)
    (pdss_cons (pds_frz 2 (pds_set 5 sc_law.nd (pd_callCG (cg_Poly_2 fx) (hr.mono (by decide)) tk (pda_cons (pd_var 2) (pda_cons (pd_var 3) pda_nil)))))
    (pdss_cons (pds_set 6 sc_law.nd (pd_meth (k := 4) (meths_cons ((mo_Poly_shifted_2 fx).mono (by decide)) meths_nil) (hr.mono (by decide)) tk (pd_var 5) (pda_cons (pd_var 4) pda_nil)))
    (pdss_cons (pds_frz 2 (pds_if (pdt_of (pdw_or (pdt_not (pdt_tru (pd_callG (dg_law_poly_is_3 fx) (hr.mono (by decide)) tk (pda_cons (pd_var 6) (pda_cons (pd_callG (dg_law_shifted_2 fx) (hr.mono (by decide)) tk (pda_cons (pd_var 2) (pda_cons (pd_var 4) pda_nil))) (pda_cons (pd_var 3) pda_nil)))))) (pdw_or1 (pdt_not (pdt_tru (pd_callG (dg_law_poly_is_3 fx) (hr.mono (by decide)) tk (pda_cons (pd_meth (k := 4) (meths_cons ((mo_Poly_shifted_2 fx).mono (by decide)) meths_nil) (hr.mono (by decide)) tk (pd_var 6) (pda_cons (pd_neg (pd_var 4)) pda_nil)) (pda_cons (pd_var 2) (pda_cons (pd_var 3) pda_nil)))))))))
    (pdss_one (pds_ret pd_bl))
    pdss_nil))
    (pdss_one (pds_frz 2 (pds_ret (pd_and' (pd_callG (dg_law_poly_is_3 fx) (hr.mono (by decide)) tk (pda_cons (pd_meth (k := 4) (meths_cons ((mo_Poly_shifted_2 fx).mono (by decide)) meths_nil) (hr.mono (by decide)) tk (pd_var 5) (pda_cons pd_int pda_nil)) (pda_cons (pd_var 2) (pda_cons (pd_var 3) pda_nil)))) (pd_one (pd_callG (dg_law_poly_is_3 fx) (hr.mono (by decide)) tk (pda_cons (pd_var 5) (pda_cons (pd_var 2) (pda_cons (pd_var 3) pda_nil))))))))))))))))
end
/-! ### the head -/
abbrev Rw : PySem.W.OpenRow := PySem.W.OpenLaw.row PySem.Challenge.rw_certsums_k09_poly_shifted
abbrev hk : PySem.W.Hook := hookP 6 fas fns (fun K => bls.all fun b => b K)
def ob (s : PySem.W.SharedT) : AlP := seeP 6 fas fns (fun K => bls.all fun b => b K) (HandSHeadRun.getT s)
theorem ob_eq (s : PySem.W.SharedT) : ob s = hk.obs s.abs := seeP_eq (HandSHeadRun.getT_eq s)
theorem run (w : World) : HandSHeadRun.RunEqI Rw (PySem.W.view Rw.prog [0, 19]) hk ob 20000 ["_wall", "__name__", "SummationError", "DivisionByZero", "Fraction", "trimmed", "content", "Poly", "_law_numbers", "_law_is_integer", "_law_divisor", "_law_poly_is", "_law_coefs", "_law_product", "_law_shifted"] w := by
  unfold HandSHeadRun.RunEqI
  kernel_rfl
end G

set_option maxHeartbeats 4000000
/-! K09: shifted polynomials: the plain law. -/
namespace G
open PySem PySem.Spec L2 Pd
theorem law_true (ns : List Int) (hl : ns.length ≤ 63) (hb : ∀ z ∈ ns, Builtin.Int.intBits z ≤ 1048576) : f_law [.lst (ns.map Dt.int)] = some (.ok (.fro (.bl true))) := by
  obtain ⟨z, hz, en⟩ := nums_at hl hb 10 (by decide)
  generalize hL : ns.map Dt.int = L at *
  have en' : f_law_numbers [.lst L, .int 10] = some (.ok (.own ((List.range 10).map fun i => Dt.int (z i)))) := en
  have m0 := fmod_pos (i := z 0) (j := 7) (by decide)
  have m1 := fmod_pos (i := z 1) (j := 9) (by decide)
  have m2 := fmod_pos (i := z 2) (j := 31) (by decide)
  have m3 := fmod_pos (i := z 2) (j := 401) (by decide)
  obtain ⟨m, hm⟩ : ∃ m : Nat, (z 0).fmod 7 = m := ⟨((z 0).fmod 7).toNat, by omega⟩
  obtain ⟨xs, hxs⟩ : ∃ xs, xs = (List.range m).map fun i => cf (z (4 + i)) := ⟨_, rfl⟩
  have lx : xs.length = m := by rw [hxs]; simp
  have sx0 : ∀ x ∈ xs, Sm x 6 := fun x hx => by
    rw [hxs] at hx
    obtain ⟨i, _, rfl⟩ := List.mem_map.mp hx
    have := cf_small (z (4 + i))
    exact ⟨by omega, by decide⟩
  have sx : ∀ k, Sm (co xs k) 6 := fun k => by
    by_cases h : k < xs.length
    · exact sx0 _ (List.mem_of_getElem? (co_lt h))
    · rw [co_ge (by omega)]; exact Sm.zero (by decide)
  have ec : f_law_coefs [.lst ((List.range 10).map fun i => Dt.int (z i)), .int 4, .int m] = some (.ok (.own (iL xs))) := by
    rw [hxs]
    exact coefs_run (st := 4) (by omega) (by decide)
  have iz : ∀ i : Nat, i < 10 → atI ((List.range 10).map fun i => Dt.int (z i)) (i : Int) = some (.int (z i)) := fun i hi => atI_nat (by omega) (by
    rw [Int.toNat_natCast, List.getElem?_map, List.getElem?_range hi]
    rfl)
  clear hxs en
  generalize ((List.range 10).map fun i => Dt.int (z i)) = Z at *
  have i0 : atI Z 0 = some (.int (z 0)) := iz 0 (by decide)
  have i1 : atI Z 1 = some (.int (z 1)) := iz 1 (by decide)
  have i2 : atI Z 2 = some (.int (z 2)) := iz 2 (by decide)
  have i3 : atI Z 3 = some (.int (z 3)) := iz 3 (by decide)
  unfold f_law
  rw [fnD_run (np := 1) rfl]
  unfold b_law
  show outR (sSeq _ _ [cD (.lst L), none, none, none, none, none, none]) = _
  rw [sSeq_nx (ρ' := [cD (.lst L), cO Z, none, none, none, none, none]) (by
    rw [sSet_run (r := .own Z) (by rw [eCa_run (ds := [.lst L, .int 10]) (by simp [eVar]), en'])]; rfl)]
  rw [sSeq_nx (ρ' := [cD (.lst L), cD (.lst Z), cO (iL xs), none, none, none, none]) (by
    rw [sFrz_own (ds := Z) rfl]
    simp only [List.set_cons_succ, List.set_cons_zero]
    rw [sSet_run (r := .own (iL xs)) (by rw [eCa_run (ds := [.lst Z, .int 4, .int m]) (by simp [eVar, i0, gMod_nz, hm]), ec])]
    rfl)]
  obtain ⟨d, hd⟩ : ∃ d : Int, d = (z 1).fmod 9 + 1 := ⟨_, rfl⟩
  have sd : Sm d 6 := ⟨by omega, by decide⟩
  have nd : d ≠ 0 := by omega
  rw [sSeq_nx (ρ' := [cD (.lst L), cD (.lst Z), cO (iL xs), cI d, none, none, none]) (by simp [eVar, i1, gMod_nz, hd])]
  rw [sSeq_nx (ρ' := [cD (.lst L), cD (.lst Z), cO (iL xs), cI d, cI ((z 2).fmod 31 - 15), none, none]) (by simp [eVar, i2, gMod_nz])]
  obtain ⟨s, ss, w1⟩ : ∃ s : Int, Sm s 9 ∧ sIf (tB (e2 gEqS (e2 gMod (e2 gIx (eVar 1) (eC (.int 3))) (eC (.int 6))) (eC (.int 1)))) (sSet 4 (e2 gSub (e2 gMod (e2 gIx (eVar 1) (eC (.int 2))) (eC (.int 401))) (eC (.int 200)))) sNext
      [cD (.lst L), cD (.lst Z), cO (iL xs), cI d, cI ((z 2).fmod 31 - 15), none, none] = some (.nx [cD (.lst L), cD (.lst Z), cO (iL xs), cI d, cI s, none, none]) := by
    by_cases h : (z 3).fmod 6 = 1
    · exact ⟨(z 2).fmod 401 - 200, ⟨by omega, by decide⟩, by simp [eVar, i2, i3, gMod_nz, h]⟩
    · exact ⟨(z 2).fmod 31 - 15, ⟨by omega, by decide⟩, by simp [eVar, i3, gMod_nz, h]⟩
  rw [sSeq_nx w1]
  clear w1
  have mk : m_Poly [.lst (iL xs), .int d] = some (.ok (.fro (pl 3 xs d))) := pl_make 3 1 (.inl rfl) (by omega) nd (b := 6) (by decide)
  rw [sSeq_nx (ρ' := [cD (.lst L), cD (.lst Z), cD (.lst (iL xs)), cI d, cI s, cD (pl 3 xs d), none]) (by
    rw [sFrz_own (ds := iL xs) rfl]
    simp only [List.set_cons_succ, List.set_cons_zero]
    rw [sSet_run (r := .fro (pl 3 xs d)) (by rw [eCa_run (ds := [.lst (iL xs), .int d]) (by simp [eVar]), mk])]
    rfl)]
  have sd8 : Sm d 8000 := sd.up (by decide)
  have syn0 := syn_sm ss (b := 6) (by decide)
  obtain ⟨ys, sh1, ly, cy⟩ := shift_run (c := 3) (e0 := 1) nd ss (B := 6) (by decide) (by decide) sx sd8 (by omega)
  obtain ⟨rs, ls, lr, cr, sr⟩ := lawShift_run ss sx0 (by omega)
  have sy : ∀ k, Sm (co ys k) 900 := fun k => by
    have := Pc_sm ss
    have hT : ∀ (zs : List Int) (j k : Nat), (∀ x ∈ zs, Sm x 6) → Sm (Tc s zs j k) (10 * (j + zs.length) + 10 + zs.length) := fun zs => by
      induction zs with
      | nil => intro j k _; exact Sm.zero (by omega)
      | cons a zs ih =>
        intro j k h
        have h1 := ih (j + 1) k fun x hx => h x (List.mem_cons_of_mem _ hx)
        have h2 := this j k
        have h3 := h a List.mem_cons_self
        have h4 : Sm (a * Pc s j k) (6 + (10 * j + 1)) := inferInstance
        rw [List.length_cons]
        exact ((h4.up (b := 10 * (j + (zs.length + 1)) + 10 + zs.length) (by omega)).addUp (h1.up (by omega))).up (by omega)
    rw [cy, ← Tc_shc]
    exact (hT xs 0 k sx0).up (by omega)
  have sms : Sm (-s) 9 := inferInstance
  obtain ⟨us, sh2, lu, cu⟩ := shift_run (c := 3) (e0 := 1) (xs := ys) nd sms (B := 900) (by decide) (by decide) sy sd8 (by omega)
  have hu : ∀ k, co us k = co xs k := fun k => by rw [cu, shc_back ly cy]
  obtain ⟨vs, sh3, lv, cv⟩ := shift_run (c := 3) (e0 := 1) (xs := xs) nd (Sm.zero (m := 9) (by decide)) (B := 6) (by decide) (by decide) sx sd8 (by omega)
  have hv : ∀ k, co vs k = co xs k := fun k => by rw [cv, shc_0]
  have sh1' : f_Poly_shifted [pl 3 xs d, .int s] = some (.ok (.fro (pl 3 ys d))) := sh1
  have sh2' : f_Poly_shifted [pl 3 ys d, .int (-s)] = some (.ok (.fro (pl 3 us d))) := sh2
  have sh3' : f_Poly_shifted [pl 3 xs d, .int 0] = some (.ok (.fro (pl 3 vs d))) := sh3
  have ls' : f_law_shifted [.lst (iL xs), .int s] = some (.ok (.own (iL rs))) := ls
  have up : ∀ {x : Int} {b : Nat}, Sm x b → b ≤ 2000 → Sm x 2000 := fun h l => h.up l
  have p1 : f_law_poly_is [pl 3 ys d, .lst (iL rs), .int d] = some (.ok (.fro (.bl true))) := plIs_run 3 nd (fun k => by rw [cy, cr]) (B := 2000) (by decide) (fun k => up (sy k) (by decide)) sr (up sd (by decide)) (up sd (by decide)) (by omega) (by omega)
  have p2 : f_law_poly_is [pl 3 us d, .lst (iL xs), .int d] = some (.ok (.fro (.bl true))) := plIs_run 3 nd (fun k => by rw [hu]) (B := 2000) (by decide) (fun k => by rw [hu]; exact up (sx k) (by decide)) (fun k => up (sx k) (by decide)) (up sd (by decide)) (up sd (by decide)) (by omega) (by omega)
  have p3 : f_law_poly_is [pl 3 vs d, .lst (iL xs), .int d] = some (.ok (.fro (.bl true))) := plIs_run 3 nd (fun k => by rw [hv]) (B := 2000) (by decide) (fun k => by rw [hv]; exact up (sx k) (by decide)) (fun k => up (sx k) (by decide)) (up sd (by decide)) (up sd (by decide)) (by omega) (by omega)
  have p4 : f_law_poly_is [pl 3 xs d, .lst (iL xs), .int d] = some (.ok (.fro (.bl true))) := plIs_run 3 nd (fun k => rfl) (B := 2000) (by decide) (fun k => up (sx k) (by decide)) (fun k => up (sx k) (by decide)) (up sd (by decide)) (up sd (by decide)) (by omega) (by omega)
  rw [sSeq_nx (ρ' := [cD (.lst L), cD (.lst Z), cD (.lst (iL xs)), cI d, cI s, cD (pl 3 xs d), cD (pl 3 ys d)]) (by
    rw [sSet_run (r := .fro (pl 3 ys d)) (eMe_run (as := [.int s]) (eVar_fro _ (pl 3 xs d) 5 rfl) (by simp [eVar]) sh1')]
    rfl)]
  generalize hρ : [cD (.lst L), cD (.lst Z), cD (.lst (iL xs)), cI d, cI s, cD (pl 3 xs d), cD (pl 3 ys d)] = ρ
  have vx : eVar 2 ρ = some (.ok (.fro (.lst (iL xs)))) := eVar_fro _ _ _ (by rw [← hρ]; rfl)
  have vd : eVar 3 ρ = some (.ok (.fro (.int d))) := eVar_fro _ _ _ (by rw [← hρ]; rfl)
  have vs' : eVar 4 ρ = some (.ok (.fro (.int s))) := eVar_fro _ _ _ (by rw [← hρ]; rfl)
  have vp : eVar 5 ρ = some (.ok (.fro (pl 3 xs d))) := eVar_fro _ _ _ (by rw [← hρ]; rfl)
  have vq : eVar 6 ρ = some (.ok (.fro (pl 3 ys d))) := eVar_fro _ _ _ (by rw [← hρ]; rfl)
  have fz : ∀ F, sFrz 2 F ρ = F ρ := fun F => sFrz_fro (d := .lst (iL xs)) (by rw [← hρ]; rfl)
  have q1 : eCa 3 f_law_poly_is (aCons (eVar 6) (aCons (eCa 2 f_law_shifted (aCons (eVar 2) (aCons (eVar 4) aNil))) (aCons (eVar 3) aNil))) ρ = some (.ok (.fro (.bl true))) := by
    rw [eCa_run (ds := [pl 3 ys d, .lst (iL rs), .int d]) (by
      rw [aCons_eq, vq, bnd_ok, frz_fro, bnd_ok, aCons_eq, eCa_run (ds := [.lst (iL xs), .int s]) (by simp only [aCons_eq, vx, vs', bnd_ok, frz_fro, aNil_eq]), ls', bnd_ok, frz_own, bnd_ok, aCons_eq, vd]
      rfl), p1]
  have q2 : eCa 3 f_law_poly_is (aCons (eMe (tbl [(3, mfn 2 (fun ds => ds) f_Poly_shifted)]) (eVar 6) (aCons (e1 gNeg (eVar 4)) aNil)) (aCons (eVar 2) (aCons (eVar 3) aNil))) ρ = some (.ok (.fro (.bl true))) := by
    rw [eCa_run (ds := [pl 3 us d, .lst (iL xs), .int d]) (by
      rw [aCons_eq, eMe_run (as := [.int (-s)]) vq (by simp only [aCons_eq, e1_eq, vs', bnd_ok, gNeg_eq, vI, frz_fro, aNil_eq]) sh2', bnd_ok, frz_fro, bnd_ok]
      simp only [aCons_eq, vx, vd, bnd_ok, frz_fro, aNil_eq]), p2]
  have q3 : eCa 3 f_law_poly_is (aCons (eMe (tbl [(3, mfn 2 (fun ds => ds) f_Poly_shifted)]) (eVar 5) (aCons (eC (.int 0)) aNil)) (aCons (eVar 2) (aCons (eVar 3) aNil))) ρ = some (.ok (.fro (.bl true))) := by
    rw [eCa_run (ds := [pl 3 vs d, .lst (iL xs), .int d]) (by
      rw [aCons_eq, eMe_run (as := [.int 0]) vp (by simp only [aCons_eq, eC_eq, bnd_ok, frz_fro, aNil_eq]) sh3', bnd_ok, frz_fro, bnd_ok]
      simp only [aCons_eq, vx, vd, bnd_ok, frz_fro, aNil_eq]), p3]
  have q4 : eCa 3 f_law_poly_is (aCons (eVar 5) (aCons (eVar 2) (aCons (eVar 3) aNil))) ρ = some (.ok (.fro (.bl true))) := by
    rw [eCa_run (ds := [pl 3 xs d, .lst (iL xs), .int d]) (by simp only [aCons_eq, vp, vx, vd, bnd_ok, frz_fro, aNil_eq]), p4]
  rw [sSeq_nx (ρ' := ρ) (by
    rw [fz, sIf_f (by simp only [tOr_eq, tNot_eq, tTru_eq, q1, q2, bnd_ok, tru_bl]; rfl)]
    rfl), fz]
  rw [sRet_fro (d := .bl true) (by rw [eAnd_eq, q3, bnd_ok, asB_eq, bnd_ok, if_pos rfl, q4])]
  rfl
end G

open PySem PySem.W PySem.Calls PyProof.Rows L2 Pd
theorem PySem.Challenge.cw_certsums_k09_poly_shifted_holds : PySem.Challenge.rw_certsums_k09_poly_shifted.Holds := by
  w_on; o_law
  refine HandSHeadRun.head_imp (r := G.Rw) (q := view G.Rw.prog [0, 19]) (H := G.hk) (ob := G.ob) (M := 20000) (loose := ["_wall", "__name__", "SummationError", "DivisionByZero", "Fraction", "trimmed", "content", "Poly", "_law_numbers", "_law_is_integer", "_law_divisor", "_law_poly_is", "_law_coefs", "_law_product", "_law_shifted"]) (d := HandSHeadRun.topDef G.Rw.prog 19) (kwd := []) G.ob_eq
    G.run (by kernel_rfl) (by kernel_rfl) (by kernel_rfl) (by rfl) (by first | assumption | decide +kernel) (by decide +kernel) ⟨rfl, rfl, rfl, rfl, rfl, by decide +kernel⟩ ?hw ?hc
  case hw => w_witness2
  case hc =>
    refine Pd.walk_end (l := PySem.Challenge.rw_certsums_k09_poly_shifted) (m := 63) (k := 5) (x := "_law_script") rfl (by decide) (by kernel_rfl) ⟨rfl, by decide, by decide⟩ ?_
    intro w mg fa h Y Gm hmg0
    obtain ⟨K, KX, c⟩ := Y
    have hmg : mg ("law" : PySem.Str) = some (.ref fa) := by
      have e : (HandSHeadRun.topDef G.Rw.prog 19).name = ("law" : PySem.Str) := by kernel_rfl
      rw [← e]
      exact hmg0
    obtain ⟨fd, F, hb⟩ := Pd.law_of KX Gm c hmg 11 24 (d := G.h_law) rfl rfl rfl rfl (p := "_law_script") (fun _ _ _ _ _ _ us hl => match us, hl with | [_], _ => rfl)
    exact ⟨K, G.tab K, fd, G.f_law, KX, hb, fun ns hl hbits => G.law_true ns hl hbits, fun base KB GB => G.ok_law ⟨_, KB, GB, c⟩ F⟩

