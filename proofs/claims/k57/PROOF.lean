import PyProof.Rows.All
import Wide.All
import OpenK.AllK
import Wide.FinOn
import KE.KStateDown
import HandS.ForMost
import HandS.ForExc
import HandS.Wide
import HandS.Gcd
import HandS.Property
import HandS.IsInst
import HandS.Defaults
import HandS.MakeKw
import HandS.MakeKwOnly
import HandS.OwnEq
import HandS.RevRange
import HandS.EndBits
import HandS.HeadHook4
import HandS.SlotsOwn
import OpenK.KMeth
import KE.KOpsOwn
import HandS.ExcOwn
import HandS.ExcIs
import HandS.TryOnly
import PyProof.ExcBaseAll.ValueError
import HandS.Iter
import HandS.Rev
import HandS.Zip
import KE.GoesMore
import KE.KMathGC
import HandS.List
import HandS.Deep
import HandS.ClsMeth
import KE.DataMinMax
import HandS.ExcInit
import HandS.ExcField
import KE.KExcIs
import HandS.HotCalls
import HandS.Head3
import HandS.SortKw
import HandS.Head0
import HandS.Head1
import HandS.Head2
import HandS.HeadEnd
import PySem.Challenge.RW_certsums_k57_operator_composition
set_option Elab.async false
set_option linter.all false
set_option maxRecDepth 100000
set_option maxHeartbeats 2000000
namespace Pd
open PySem PySem.Spec L2
inductive Dt where
  | non | bl (b : Bool) | int (i : Int) | str (x : Str) | ty (n : String)
  | tup (xs : List Dt) | lst (xs : List Dt) | ins (c : Nat) (xs : List Dt)
structure Tab where
  ca : Nat → Addr
  fl : Nat → List Str
mutual
def Rep (K : PySem.W.Frag) (T : Tab) (Z : Hp) : Dt → V → Prop
  | .non, v => v = .non
  | .bl b, v => v = .bl b
  | .int i, v => v = .int i
  | .str x, v => v = .str x
  | .ty n, v => v = .ty n
  | .tup ds, v => ∃ p vs, v = .ref p ∧ SqT K Z p vs ∧ Reps K T Z ds vs
  | .lst ds, v => ∃ p vs, v = .ref p ∧ SqL K Z p vs ∧ Reps K T Z ds vs
  | .ins c ds, v => ∃ p dx vs, v = .ref p ∧ Z p = some (.ins (T.ca c) dx ((T.fl c).zip vs)) ∧ vs.length = (T.fl c).length ∧ Reps K T Z ds vs
def Reps (K : PySem.W.Frag) (T : Tab) (Z : Hp) : List Dt → List V → Prop
  | [], vs => vs = []
  | d :: ds, vs => ∃ v r, vs = v :: r ∧ Rep K T Z d v ∧ Reps K T Z ds r
end
def Le (H H' : Hp) : Prop := ∀ a o, H a = some o → H' a = some o
theorem Le.refl (H : Hp) : Le H H := fun _ _ h => h
theorem Le.trans {H H1 H2 : Hp} (a : Le H H1) (b : Le H1 H2) : Le H H2 := fun c o h => b c o (a c o h)
theorem Le.free {H H' : Hp} (e : Le H H') {l : Addr} (h : H' l = none) : H l = none := by
  cases q : H l with
  | none => rfl
  | some o => rw [e l o q] at h; cases h
theorem Le.ne {H H' : Hp} (e : Le H H') {l : Addr} (h : H l ≠ none) : H' l ≠ none := fun z => h (e.free z)
theorem Le.seqL {K : PySem.W.Frag} {H H' : Hp} {a : Addr} {xs : List V} (e : Le H H') (h : SqL K H a xs) : SqL K H' a xs := by
  rcases h with (h | ⟨o, h⟩) | h
  · exact .inl (.inl (e _ _ h))
  · exact .inl (.inr ⟨o, e _ _ h⟩)
  · exact .inr h
theorem Le.seqT {K : PySem.W.Frag} {H H' : Hp} {a : Addr} {xs : List V} (e : Le H H') (h : SqT K H a xs) : SqT K H' a xs := by
  rcases h with (h | ⟨o, h⟩) | h
  · exact .inl (.inl (e _ _ h))
  · exact .inl (.inr ⟨o, e _ _ h⟩)
  · exact .inr h
theorem Le.upd {H : Hp} {p : Addr} {o : HO} (h : H p = none) : Le H (upd H p o) := fun a u e => by rw [upd_ne (ne_of_none e h)]; exact e
section
variable {K : PySem.W.Frag} {T : Tab} {Z Z' : Hp}
mutual
theorem Rep.mono (e : Le Z Z') : ∀ {d : Dt} {v : V}, Rep K T Z d v → Rep K T Z' d v
  | .non, _, h => h
  | .bl _, _, h => h
  | .int _, _, h => h
  | .str _, _, h => h
  | .ty _, _, h => h
  | .tup _, _, h => by
    simp only [Rep] at h ⊢
    obtain ⟨p, vs, h1, h2, h3⟩ := h
    exact ⟨p, vs, h1, e.seqT h2, Reps.mono e h3⟩
  | .lst _, _, h => by
    simp only [Rep] at h ⊢
    obtain ⟨p, vs, h1, h2, h3⟩ := h
    exact ⟨p, vs, h1, e.seqL h2, Reps.mono e h3⟩
  | .ins _ _, _, h => by
    simp only [Rep] at h ⊢
    obtain ⟨p, dx, vs, h1, h2, h3, h4⟩ := h
    exact ⟨p, dx, vs, h1, e _ _ h2, h3, Reps.mono e h4⟩
theorem Reps.mono (e : Le Z Z') : ∀ {ds : List Dt} {vs : List V}, Reps K T Z ds vs → Reps K T Z' ds vs
  | [], _, h => h
  | _ :: _, _, h => by
    simp only [Reps] at h ⊢
    obtain ⟨v, r, h1, h2, h3⟩ := h
    exact ⟨v, r, h1, Rep.mono e h2, Reps.mono e h3⟩
end
theorem Reps.nil : Reps K T Z [] [] := by simp only [Reps]
theorem Reps.cons {d : Dt} {v : V} {ds : List Dt} {vs : List V} (h : Rep K T Z d v) (t : Reps K T Z ds vs) : Reps K T Z (d :: ds) (v :: vs) := by
  simp only [Reps]; exact ⟨v, vs, rfl, h, t⟩
theorem Reps.nil_inv {vs : List V} (h : Reps K T Z [] vs) : vs = [] := by simpa only [Reps] using h
theorem Reps.cons_inv {d : Dt} {ds : List Dt} {vs : List V} (h : Reps K T Z (d :: ds) vs) : ∃ v r, vs = v :: r ∧ Rep K T Z d v ∧ Reps K T Z ds r := by simpa only [Reps] using h
theorem Reps.length : ∀ {ds : List Dt} {vs : List V}, Reps K T Z ds vs → vs.length = ds.length
  | [], _, h => by rw [h.nil_inv]; rfl
  | _ :: _, _, h => by
    obtain ⟨v, r, rfl, _, t⟩ := h.cons_inv
    rw [List.length_cons, List.length_cons, t.length]
theorem Reps.append : ∀ {ds es : List Dt} {vs ws : List V}, Reps K T Z ds vs → Reps K T Z es ws → Reps K T Z (ds ++ es) (vs ++ ws)
  | [], _, _, _, h, t => by rw [h.nil_inv]; exact t
  | _ :: _, _, _, _, h, t => by
    obtain ⟨v, r, rfl, a, b⟩ := h.cons_inv
    exact .cons a (b.append t)
theorem Reps.get : ∀ {ds : List Dt} {vs : List V} {i : Nat} {d : Dt}, Reps K T Z ds vs → ds[i]? = some d → ∃ v, vs[i]? = some v ∧ Rep K T Z d v
  | [], _, _, _, _, e => by simp at e
  | _ :: _, _, 0, _, h, e => by
    obtain ⟨v, r, rfl, a, b⟩ := h.cons_inv
    simp at e; subst e
    exact ⟨v, rfl, a⟩
  | _ :: _, _, i + 1, _, h, e => by
    obtain ⟨v, r, rfl, a, b⟩ := h.cons_inv
    obtain ⟨x, h1, h2⟩ := b.get (i := i) (by simpa using e)
    exact ⟨x, by simpa using h1, h2⟩
theorem Reps.set : ∀ {ds : List Dt} {vs : List V} {d : Dt} {v : V} (i : Nat), Reps K T Z ds vs → Rep K T Z d v → Reps K T Z (ds.set i d) (vs.set i v)
  | [], _, _, _, _, h, _ => by rw [h.nil_inv]; exact .nil
  | _ :: _, _, _, _, 0, h, t => by
    obtain ⟨v, r, rfl, a, b⟩ := h.cons_inv
    exact .cons t b
  | _ :: _, _, _, _, i + 1, h, t => by
    obtain ⟨v, r, rfl, a, b⟩ := h.cons_inv
    exact .cons a (b.set i t)
theorem Reps.take : ∀ {ds : List Dt} {vs : List V} (n : Nat), Reps K T Z ds vs → Reps K T Z (ds.take n) (vs.take n)
  | _, _, 0, _ => by simp only [List.take_zero]; exact .nil
  | [], _, _ + 1, h => by rw [h.nil_inv]; exact .nil
  | _ :: _, _, n + 1, h => by
    obtain ⟨v, r, rfl, a, b⟩ := h.cons_inv
    exact .cons a (b.take n)
theorem Reps.drop : ∀ {ds : List Dt} {vs : List V} (n : Nat), Reps K T Z ds vs → Reps K T Z (ds.drop n) (vs.drop n)
  | _, _, 0, h => h
  | [], _, _ + 1, h => by rw [h.nil_inv]; exact .nil
  | _ :: _, _, n + 1, h => by
    obtain ⟨v, r, rfl, a, b⟩ := h.cons_inv
    exact b.drop n
theorem Reps.dropLast {ds : List Dt} {vs : List V} (h : Reps K T Z ds vs) : Reps K T Z ds.dropLast vs.dropLast := by
  rw [List.dropLast_eq_take, List.dropLast_eq_take, h.length]; exact h.take _
theorem Reps.rep {ds : List Dt} {vs : List V} (h : Reps K T Z ds vs) : ∀ n : Nat, Reps K T Z (List.replicate n ds).flatten (List.replicate n vs).flatten
  | 0 => by simp; exact .nil
  | n + 1 => by rw [List.replicate_succ, List.replicate_succ, List.flatten_cons, List.flatten_cons]; exact h.append (Reps.rep h n)
theorem Reps.ints : ∀ {ns : List Int} , Reps K T Z (ns.map Dt.int) (ns.map V.int)
  | [] => .nil
  | n :: ns => .cons (by simp only [Rep]) Reps.ints
end
structure Ext4 (Z H Z' H' : Hp) : Prop where
  hh : Le H H'
  zz : Le Z Z'
  zh : Le Z' H'
  st : ∀ a, H a ≠ none → Z' a = Z a
theorem Ext4.refl {Z H : Hp} (h : Le Z H) : Ext4 Z H Z H := ⟨Le.refl _, Le.refl _, h, fun _ _ => rfl⟩
theorem Ext4.trans {Z H Z1 H1 Z2 H2 : Hp} (a : Ext4 Z H Z1 H1) (b : Ext4 Z1 H1 Z2 H2) : Ext4 Z H Z2 H2 :=
  ⟨a.hh.trans b.hh, a.zz.trans b.zz, b.zh, fun c h => (b.st c (a.hh.ne h)).trans (a.st c h)⟩
theorem Ext4.new {Z H : Hp} {p : Addr} {o : HO} (h : Le Z H) (n : H p = none) : Ext4 Z H Z (upd H p o) :=
  ⟨Le.upd n, Le.refl _, h.trans (Le.upd n), fun _ _ => rfl⟩
theorem Ext4.newZ {Z H : Hp} {p : Addr} {o : HO} (h : Le Z H) (n : H p = none) : Ext4 Z H (upd Z p o) (upd H p o) := by
  have nz := h.free n
  refine ⟨Le.upd n, Le.upd nz, fun a u e => ?_, fun a e => ?_⟩
  · by_cases q : a = p
    · subst q; rw [upd_same] at e ⊢; exact e
    · rw [upd_ne q] at e ⊢; exact h _ _ e
  · by_cases q : a = p
    · subst q; exact absurd n e
    · rw [upd_ne q]
theorem Ext4.freeze {Z H Z1 H1 : Hp} {p : Addr} {o : HO} (a : Ext4 Z H Z1 H1) (n : H p = none) (z : Z1 p = none) (h : H1 p = some o) : Ext4 Z H (upd Z1 p o) H1 := by
  refine ⟨a.hh, a.zz.trans (Le.upd z), fun b u e => ?_, fun b e => ?_⟩
  · by_cases q : b = p
    · subst q; rw [upd_same] at e; cases e; exact h
    · rw [upd_ne q] at e; exact a.zh _ _ e
  · have q : b ≠ p := fun q => e (q ▸ n)
    rw [upd_ne q]; exact a.st b e
inductive Rs where
  | fro (d : Dt) | own (ds : List Dt) | bor (ds : List Dt)
inductive Ex (α : Type) where
  | ok (a : α) | ex (c : Nat) (ds : List Dt)
abbrev M (α : Type) := Option (Ex α)
def bnd {α β : Type} (m : M α) (k : α → M β) : M β :=
  match m with
  | none => none
  | some (.ok a) => k a
  | some (.ex c ds) => some (.ex c ds)
@[simp] theorem bnd_ok {α β : Type} (a : α) (k : α → M β) : bnd (some (.ok a)) k = k a := rfl
@[simp] theorem bnd_ex {α β : Type} (c : Nat) (ds : List Dt) (k : α → M β) : bnd (some (.ex c ds)) k = some (.ex c ds) := rfl
@[simp] theorem bnd_none {α β : Type} (k : α → M β) : bnd (none : M α) k = none := rfl
theorem bnd_cases {α β : Type} {m : M α} {k : α → M β} {out : Ex β} (h : bnd m k = some out) : (∃ c ds, m = some (.ex c ds) ∧ out = .ex c ds) ∨ (∃ r, m = some (.ok r) ∧ k r = some out) := by
  cases m with
  | none => cases h
  | some x =>
    cases x with
    | ok a => exact .inr ⟨a, rfl, h⟩
    | ex c ds => cases h; exact .inl ⟨c, ds, rfl, rfl⟩
inductive Cel where
  | fro (d : Dt) | own (ds : List Dt) | mk (c : Nat) (ds : List Dt)
abbrev PEnv := List (Option Cel)
abbrev FE := PEnv → M Rs
def isOwnC : Option (Option Cel) → Prop
  | some (some (.own _)) => True
  | some (some (.mk _ _)) => True
  | _ => False
abbrev Hx := Hp × Addr
section
variable (K : PySem.W.Frag) (T : Tab)
def RRep (B Z H : Hp) (v : V) : Rs → Prop
  | .fro d => Rep K T Z d v
  | .own ds => ∃ p vs, v = .ref p ∧ B p = none ∧ H p = some (.lst vs) ∧ Z p = none ∧ Reps K T Z ds vs
  | .bor ds => ∃ p vs, v = .ref p ∧ H p = some (.lst vs) ∧ Reps K T Z ds vs
def CRep (B Z H : Hp) (v : V) : Cel → Prop
  | .fro d => Rep K T Z d v
  | .own ds => ∃ p vs, v = .ref p ∧ B p = none ∧ H p = some (.lst vs) ∧ Z p = none ∧ Reps K T Z ds vs
  | .mk c ds => ∃ p dx vs, v = .ref p ∧ B p = none ∧ H p = some (.ins (T.ca c) dx ((T.fl c).zip vs)) ∧ Z p = none ∧ Reps K T Z ds vs
def XRep (Z H : Hp) (cls : Value) (d : Option Addr) (c : Nat) (ds : List Dt) : Prop :=
  cls = .ref (T.ca c) ∧ ((ds = [] ∧ d = none) ∨ ∃ x dd f v, ds = [x] ∧ d = some dd ∧ T.fl c = [f] ∧ H dd = some (.xd [(f, v)]) ∧ Rep K T Z x v)
structure SI (H0 : Hp) (Z0 : Hx) (env : PEnv) (σ : St) (Z H : Hp) : Prop where
  ext : Ext4 Z0.1 H0 Z H
  len : env.length = σ.length
  cell : ∀ (i : Nat) c, env[i]? = some (some c) → ∃ v, σ[i]? = some (some v) ∧ CRep K T H0 Z H v c
  sep : ∀ (i j : Nat) v, i ≠ j → isOwnC env[i]? → isOwnC env[j]? → σ[i]? = some (some v) → σ[j]? = some (some v) → False
  me : ∀ (i : Nat) c ds v, env[i]? = some (some (.mk c ds)) → σ[i]? = some (some v) → v = .ref Z0.2
end
section
variable {K : PySem.W.Frag} {T : Tab} {B Z H Z' H' Z1 H1 H0 : Hp} {Z0 : Hx} {v : V} {σ : St} {env : PEnv}
theorem RRep.step {r : Rs} (h : RRep K T B Z1 H1 v r) (e : Ext4 Z1 H1 Z' H') : RRep K T B Z' H' v r := by
  cases r with
  | fro d => exact Rep.mono e.zz h
  | own ds =>
    obtain ⟨p, vs, rfl, b, hp, zp, rs⟩ := h
    exact ⟨p, vs, rfl, b, e.hh _ _ hp, by rw [e.st p (by rw [hp]; simp)]; exact zp, rs.mono e.zz⟩
  | bor ds =>
    obtain ⟨p, vs, rfl, hp, rs⟩ := h
    exact ⟨p, vs, rfl, e.hh _ _ hp, rs.mono e.zz⟩
theorem RRep.base {B' : Hp} {r : Rs} (h : RRep K T B Z1 H1 v r) (e : Le B' B) : RRep K T B' Z1 H1 v r := by
  cases r with
  | fro d => exact h
  | own ds =>
    obtain ⟨p, vs, rfl, b, hp, zp, rs⟩ := h
    exact ⟨p, vs, rfl, e.free b, hp, zp, rs⟩
  | bor ds => exact h
theorem CRep.step {r : Cel} (h : CRep K T B Z1 H1 v r) (e : Ext4 Z1 H1 Z' H') : CRep K T B Z' H' v r := by
  cases r with
  | fro d => exact Rep.mono e.zz h
  | own ds =>
    obtain ⟨p, vs, rfl, b, hp, zp, rs⟩ := h
    exact ⟨p, vs, rfl, b, e.hh _ _ hp, by rw [e.st p (by rw [hp]; simp)]; exact zp, rs.mono e.zz⟩
  | mk c ds =>
    obtain ⟨p, dx, vs, rfl, b, hp, zp, rs⟩ := h
    exact ⟨p, dx, vs, rfl, b, e.hh _ _ hp, by rw [e.st p (by rw [hp]; simp)]; exact zp, rs.mono e.zz⟩
theorem SI.step (s : SI K T H0 Z0 env σ Z1 H1) (e : Ext4 Z1 H1 Z' H') : SI K T H0 Z0 env σ Z' H' :=
  ⟨s.ext.trans e, s.len, fun i c h => let ⟨v, h1, h2⟩ := s.cell i c h; ⟨v, h1, h2.step e⟩, s.sep, s.me⟩
theorem SI.zh (s : SI K T H0 Z0 env σ Z H) : Le Z H := s.ext.zh
end
def frz : Rs → M Dt
  | .fro d => some (.ok d)
  | .own ds => some (.ok (.lst ds))
  | .bor _ => none
@[simp] theorem frz_fro (d : Dt) : frz (.fro d) = some (.ok d) := rfl
@[simp] theorem frz_own (d : List Dt) : frz (.own d) = some (.ok (.lst d)) := rfl
@[simp] theorem frz_bor (d : List Dt) : frz (.bor d) = none := rfl
theorem RRep.freeze {K : PySem.W.Frag} {T : Tab} {Z H Z1 H1 : Hp} {v : V} {r : Rs} {d : Dt} (h : RRep K T H Z1 H1 v r) (f : frz r = some (.ok d)) (e : Ext4 Z H Z1 H1) : ∃ Z2, Ext4 Z H Z2 H1 ∧ Le Z1 Z2 ∧ Rep K T Z2 d v := by
  cases r with
  | fro d' => cases f; exact ⟨Z1, e, Le.refl _, h⟩
  | own ds =>
    cases f
    obtain ⟨p, vs, rfl, b, hp, zp, rs⟩ := h
    refine ⟨upd Z1 p (.lst vs), e.freeze b zp hp, Le.upd zp, ?_⟩
    simp only [Rep]
    exact ⟨p, vs, rfl, .of upd_same, rs.mono (Le.upd zp)⟩
  | bor ds => cases f
structure Post (K : PySem.W.Frag) (T : Tab) (Z H : Hp) (σ : St) (W : WX) (Q : VK) (out : Ex Rs) : Prop where
  ok : ∀ r, out = .ok r → ∀ v Z' H', Ext4 Z H Z' H' → RRep K T H Z' H' v r → Q v H'
  ex : ∀ c ds, out = .ex c ds → ∀ cls d Z' H', Ext4 Z H Z' H' → XRep K T Z' H' cls d c ds → W cls d σ H'
theorem Post.step {K : PySem.W.Frag} {T : Tab} {Z H Z1 H1 : Hp} {σ : St} {W : WX} {Q : VK} {out : Ex Rs} (p : Post K T Z H σ W Q out) (e : Ext4 Z H Z1 H1) : Post K T Z1 H1 σ W Q out :=
  ⟨fun r h v Z' H' e' rr => p.ok r h v Z' H' (e.trans e') (rr.base e.hh), fun c ds h cls d Z' H' e' x => p.ex c ds h cls d Z' H' (e.trans e') x⟩
def tD (K : PySem.W.Frag) (T : Tab) (W : WX) (f : FE) : TE := fun σ H Q =>
  ∃ H0 Z0 env Z out, f env = some out ∧ SI K T H0 Z0 env σ Z H ∧ Post K T Z H σ W Q out
abbrev PD (X : Cx) (T : Tab) (W : WX) (e : Expr) (f : FE) : Prop := PE X e (tD X.K T W f)
theorem PE.imp {X : Cx} {e : Expr} {t t' : TE} (h : PE X e t) (i : ∀ σ H Q, t' σ H Q → t σ H Q) : PE X e t' := ⟨fun pins s σ H Q I q => h.run pins s σ H Q I (i σ H Q q)⟩
section
variable {K : PySem.W.Frag} {T : Tab} {W : WX} {H0 Z H : Hp} {Z0 : Hx} {env : PEnv} {σ : St} {Q : VK} {out : Ex Rs}
theorem tD_bnd {fa : FE} {k : Rs → M Rs} {G : VK} (h : bnd (fa env) k = some out) (s : SI K T H0 Z0 env σ Z H) (p : Post K T Z H σ W Q out)
    (go : ∀ r v Z1 H1, k r = some out → Ext4 Z H Z1 H1 → RRep K T H Z1 H1 v r → SI K T H0 Z0 env σ Z1 H1 → Post K T Z1 H1 σ W Q out → G v H1) : tD K T W fa σ H G := by
  rcases bnd_cases h with ⟨c, ds, e1, e2⟩ | ⟨r, e1, e2⟩
  · exact ⟨H0, Z0, env, Z, _, e1, s, fun r q => (nomatch q), fun c' ds' q cls d Z' H' e x => p.ex c' ds' (e2.trans q) cls d Z' H' e x⟩
  · refine ⟨H0, Z0, env, Z, _, e1, s, fun r' q v Z' H' e rr => ?_, fun c' ds' q => (nomatch q)⟩
    cases q
    exact go r v Z' H' e2 e rr (s.step e) (p.step e)
theorem Post.fro {d : Dt} {v : V} (p : Post K T Z H σ W Q (.ok (.fro d))) (zh : Le Z H) (r : Rep K T Z d v) : Q v H := p.ok _ rfl v Z H (Ext4.refl zh) r
theorem Post.own {ds : List Dt} {vs : List V} {q : Addr} (p : Post K T Z H σ W Q (.ok (.own ds))) (zh : Le Z H) (n : H q = none) (r : Reps K T Z ds vs) : Q (.ref q) (upd H q (.lst vs)) :=
  p.ok _ rfl _ Z _ (Ext4.new zh n) ⟨q, vs, rfl, n, upd_same, zh.free n, r⟩
theorem Post.tup {ds : List Dt} {vs : List V} {q : Addr} (p : Post K T Z H σ W Q (.ok (.fro (.tup ds)))) (zh : Le Z H) (n : H q = none) (r : Reps K T Z ds vs) : Q (.ref q) (upd H q (.tup vs)) := by
  refine p.ok _ rfl _ (upd Z q (.tup vs)) _ (Ext4.newZ zh n) ?_
  show Rep K T _ (.tup ds) _
  simp only [Rep]
  exact ⟨q, vs, rfl, .of upd_same, r.mono (Le.upd (zh.free n))⟩
end
def eC (d : Dt) : FE := fun _ => some (.ok (.fro d))
def eVar (i : Nat) : FE := fun ρ => match ρ[i]? with
  | some (some (.fro d)) => some (.ok (.fro d))
  | some (some (.own ds)) => some (.ok (.bor ds))
  | _ => none
section
variable {X : Cx} {T : Tab} {W : WX} {pos : Pos}
theorem pd_var (i : Nat) {x : Str} (hN : X.N[i]? = some x := by rfl) (hv : Vis X.env.scope x := by first | exact Or.inl rfl | exact Or.inr (Or.inl rfl) | exact Or.inr (Or.inr rfl)) (hd : (x == ("__debug__" : Str)) = false := by decide)
    (hcd : (x == ("__classdict__" : Str)) = false := by decide) : PD X T W (.Name x pos) (eVar i) := by
  refine PE.imp (pe_var hN hv hd hcd) fun σ H Q ⟨H0, Z0, env, Z, out, h, s, p⟩ => ?_
  unfold eVar at h
  split at h
  · rename_i d he
    cases h
    obtain ⟨v, e1, e2⟩ := s.cell i _ he
    exact ⟨v, e1, p.fro s.zh e2⟩
  · rename_i ds he
    cases h
    obtain ⟨v, e1, q, vs, rfl, b, hp, zp, rs⟩ := s.cell i _ he
    exact ⟨_, e1, p.ok _ rfl _ Z H (Ext4.refl s.zh) ⟨q, vs, rfl, hp, rs⟩⟩
  · cases h
theorem pd_c {e : Expr} {d : Dt} {v : V} (h : PE X e (tC v)) (r : ∀ Z, Rep X.K T Z d v) : PD X T W e (eC d) := by
  refine PE.imp h fun σ H Q ⟨H0, Z0, env, Z, out, h, s, p⟩ => ?_
  cases h
  exact p.fro s.zh (r Z)
theorem pd_int {i j} : PD X T W (.Constant (.int i) j pos) (eC (.int i)) := pd_c pe_int fun _ => by simp only [Rep]
theorem pd_bl {b j} : PD X T W (.Constant (.bool b) j pos) (eC (.bl b)) := pd_c pe_bl fun _ => by simp only [Rep]
theorem pd_non {j} : PD X T W (.Constant .none j pos) (eC .non) := pd_c pe_non fun _ => by simp only [Rep]
end
abbrev G2 := Rs → Rs → M Rs
abbrev G1 := Rs → M Rs
def Op2 (K : PySem.W.Frag) (T : Tab) (W : WX) (r : R2) (g : G2) : Prop := ∀ (σ : St) (B Z H : Hp) (x y : Rs) (v w : V) (out : Ex Rs) (Q : VK), Le Z H → RRep K T B Z H v x → RRep K T B Z H w y → g x y = some out → Post K T Z H σ W Q out → r v w H Q
def Op1 (K : PySem.W.Frag) (T : Tab) (W : WX) (r : V → Hp → VK → Prop) (g : G1) : Prop := ∀ (σ : St) (B Z H : Hp) (x : Rs) (v : V) (out : Ex Rs) (Q : VK), Le Z H → RRep K T B Z H v x → g x = some out → Post K T Z H σ W Q out → r v H Q
def e2 (g : G2) (fa fb : FE) : FE := fun ρ => bnd (fa ρ) fun x => bnd (fb ρ) fun y => g x y
def e1 (g : G1) (fa : FE) : FE := fun ρ => bnd (fa ρ) g
section
variable {K : PySem.W.Frag} {T : Tab} {W : WX}
theorem tOp_of {r : R2} {g : G2} {fa fb : FE} (h : Op2 K T W r g) {σ : St} {H : Hp} {Q : VK} (q : tD K T W (e2 g fa fb) σ H Q) : tOp r (tD K T W fa) (tD K T W fb) σ H Q := by
  obtain ⟨H0, Z0, env, Z, out, hf, s, p⟩ := q
  refine tD_bnd hf s p fun x v Z1 H1 hk e1 r1 s1 p1 => ?_
  refine tD_bnd hk s1 p1 fun y w Z2 H2 hk2 e2 r2 s2 p2 => ?_
  exact h σ H Z2 H2 x y v w out Q e2.zh (r1.step e2) (r2.base e1.hh) hk2 p2
theorem tUn_of {r : V → Hp → VK → Prop} {g : G1} {fa : FE} (h : Op1 K T W r g) {σ : St} {H : Hp} {Q : VK} (q : tD K T W (e1 g fa) σ H Q) : tUn r (tD K T W fa) σ H Q := by
  obtain ⟨H0, Z0, env, Z, out, hf, s, p⟩ := q
  refine tD_bnd hf s p fun x v Z1 H1 hk e1 r1 s1 p1 => ?_
  exact h σ H Z1 H1 x v out Q e1.zh r1 hk p1
variable {X : Cx} {a b : Expr} {fa fb : FE} {pos : Pos}
theorem pd_op {op : Operator} {r : R2} {g : G2} (ho : OpR X (binaryOp op) r) (h : Op2 X.K T W r g) (ha : PD X T W a fa) (hb : PD X T W b fb) : PD X T W (.BinOp a op b pos) (e2 g fa fb) :=
  PE.imp (pe_op ho ha hb) fun _ _ _ q => tOp_of h q
theorem pd_un {op : UnaryOp} {r : V → Hp → VK → Prop} {g : G1} (ho : UnR X (unaryOp op) r) (h : Op1 X.K T W r g) (ha : PD X T W a fa) : PD X T W (.UnaryOp op a pos) (e1 g fa) :=
  PE.imp (pe_un ho ha) fun _ _ _ q => tUn_of h q
theorem pd_cmp {op : CmpOp} {r : R2} {g : G2} (ho : OpR X (compareOp op) r) (h : Op2 X.K T W r g) (ha : PD X T W a fa) (hb : PD X T W b fb) (hm : behindInMarks op b = false) : PD X T W (.Compare a [op] [b] pos) (e2 g fa fb) :=
  PE.imp (pe_cmpR ho ha hb hm) fun _ _ _ q => tOp_of h q
theorem pd_ix {r : R2} {g : G2} (ho : IxR X r) (h : Op2 X.K T W r g) (ha : PD X T W a fa) (hb : PD X T W b fb) (hs : PlainIx b := by exact fun _ _ => rfl) : PD X T W (.Subscript a b pos) (e2 g fa fb) :=
  PE.imp (pe_ix ho ha hb hs) fun _ _ _ q => tOp_of h q
end
def gII (f : Int → Int → M Rs) : G2
  | .fro (.int i), .fro (.int j) => f i j
  | _, _ => none
@[simp] theorem gII_int (f : Int → Int → M Rs) (i j : Int) : gII f (.fro (.int i)) (.fro (.int j)) = f i j := rfl
theorem gII_inv {f : Int → Int → M Rs} {x y : Rs} {out : Ex Rs} (h : gII f x y = some out) : ∃ i j, x = .fro (.int i) ∧ y = .fro (.int j) ∧ f i j = some out := by
  unfold gII at h
  split at h
  · exact ⟨_, _, rfl, rfl, h⟩
  · cases h
abbrev vI (i : Int) : M Rs := some (.ok (.fro (.int i)))
abbrev vB (b : Bool) : M Rs := some (.ok (.fro (.bl b)))
section
variable {K : PySem.W.Frag} {T : Tab} {W : WX}
theorem o2_I0 {f : Int → Int → Int} : Op2 K T W (rI0 fun i j => .int (f i j)) (gII fun i j => vI (f i j)) := fun σ B Z H x y v w out Q zh r1 r2 hg p => by
  obtain ⟨i, j, rfl, rfl, e⟩ := gII_inv hg
  cases e
  simp only [RRep, Rep] at r1 r2
  exact ⟨i, j, r1, r2, p.fro zh (by simp only [Rep])⟩
theorem o2_B0 {f : Int → Int → Bool} : Op2 K T W (rI0 fun i j => .bl (f i j)) (gII fun i j => vB (f i j)) := fun σ B Z H x y v w out Q zh r1 r2 hg p => by
  obtain ⟨i, j, rfl, rfl, e⟩ := gII_inv hg
  cases e
  simp only [RRep, Rep] at r1 r2
  exact ⟨i, j, r1, r2, p.fro zh (by simp only [Rep])⟩
theorem o2_I {C : Int → Int → Prop} {c : Int → Int → Bool} {f : Int → Int → Int} (hc : ∀ i j, c i j = true → C i j) : Op2 K T W (rI C fun i j => .int (f i j)) (gII fun i j => if c i j then vI (f i j) else none) := fun σ B Z H x y v w out Q zh r1 r2 hg p => by
  obtain ⟨i, j, rfl, rfl, e⟩ := gII_inv hg
  split at e
  · rename_i hcc
    cases e
    simp only [RRep, Rep] at r1 r2
    exact ⟨i, j, r1, r2, hc i j hcc, p.fro zh (by simp only [Rep])⟩
  · cases e
end
def mulOk (i j : Int) : Bool := decide (i.natAbs.log2 + j.natAbs.log2 < 100000000)
theorem mulOk.ok {i j : Int} (h : mulOk i j = true) : IntMulOk i j := by
  have b : ∀ x : Int, Builtin.Int.intBits x ≤ x.natAbs.log2 + 1 := fun x => by
    unfold Builtin.Int.intBits
    split <;> omega
  have h1 := b i
  have h2 := b j
  have h3 : i.natAbs.log2 + j.natAbs.log2 < 100000000 := of_decide_eq_true h
  have e : bitsLine = 134217728 := by decide
  unfold IntMulOk
  intro z
  rw [Bool.and_eq_true] at z
  have z2 := z.2
  unfold Builtin.Int.intTooBig at z2
  have z3 := of_decide_eq_true z2
  rw [e] at z3
  omega
def divOk (_ j : Int) : Bool := decide (j ≠ 0)
def modOk (_ j : Int) : Bool := decide (j ≠ 0)
section
variable {X : Cx}
theorem op_mulD : OpR X (binaryOp .Mult) (rI (fun i j => mulOk i j = true) fun i j => .int (i * j)) := opI fun _ _ _ _ _ _ _ hc q => PyProof.Rows.mul_int q (mulOk.ok hc)
def gAdd : G2 := gII fun i j => vI (i + j)
def gSub : G2 := gII fun i j => vI (i - j)
def gMul : G2 := gII fun i j => if mulOk i j then vI (i * j) else none
def gDiv : G2 := gII fun i j => if divOk i j then vI (i.fdiv j) else none
def gMod : G2 := gII fun i j => if modOk i j then vI (i.fmod j) else none
def powOk (i j : Int) : Bool := decide (0 ≤ j) && decide (j ≤ 1000000) && decide (i.natAbs < 2 ^ 64)
def gPow : G2 := gII fun i j => if powOk i j then vI (i ^ j.toNat) else none
def gLt : G2 := gII fun i j => vB (decide (i < j))
def gLe : G2 := gII fun i j => vB (decide (i ≤ j))
def gGt : G2 := gII fun i j => vB (decide (j < i))
def gGe : G2 := gII fun i j => vB (decide (j ≤ i))
variable {T : Tab} {W : WX} {a b : Expr} {fa fb : FE} {pos : Pos}
theorem pd_add (ha : PD X T W a fa) (hb : PD X T W b fb) : PD X T W (.BinOp a .Add b pos) (e2 gAdd fa fb) := pd_op op_add o2_I0 ha hb
theorem pd_sub (ha : PD X T W a fa) (hb : PD X T W b fb) : PD X T W (.BinOp a .Sub b pos) (e2 gSub fa fb) := pd_op op_sub o2_I0 ha hb
theorem pd_mul (ha : PD X T W a fa) (hb : PD X T W b fb) : PD X T W (.BinOp a .Mult b pos) (e2 gMul fa fb) := pd_op op_mulD (o2_I fun _ _ h => h) ha hb
theorem pd_mod (ha : PD X T W a fa) (hb : PD X T W b fb) : PD X T W (.BinOp a .Mod b pos) (e2 gMod fa fb) := pd_op op_modN (o2_I fun _ _ h => of_decide_eq_true h) ha hb
theorem pd_pow (ha : PD X T W a fa) (hb : PD X T W b fb) : PD X T W (.BinOp a .Pow b pos) (e2 gPow fa fb) := pd_op op_pow (o2_I fun _ _ h => by
  unfold powOk at h
  simp only [Bool.and_eq_true, decide_eq_true_eq] at h
  exact ⟨h.1.1, h.1.2, h.2⟩) ha hb
theorem pd_ge (ha : PD X T W a fa) (hb : PD X T W b fb) : PD X T W (.Compare a [.GtE] [b] pos) (e2 gGe fa fb) := pd_cmp op_ge o2_B0 ha hb (nomark _)
end
end Pd
set_option maxHeartbeats 2000000
namespace Pd
open PySem PySem.Spec L2
open PyProof.Rows (envOfC)
abbrev FT := PEnv → M Bool
structure PostT (K : PySem.W.Frag) (T : Tab) (Z H : Hp) (σ : St) (W : WX) (Q : Bool → Hp → Prop) (out : Ex Bool) : Prop where
  ok : ∀ r, out = .ok r → ∀ Z' H', Ext4 Z H Z' H' → Q r H'
  ex : ∀ c ds, out = .ex c ds → ∀ cls d Z' H', Ext4 Z H Z' H' → XRep K T Z' H' cls d c ds → W cls d σ H'
theorem PostT.step {K : PySem.W.Frag} {T : Tab} {Z H Z1 H1 : Hp} {σ : St} {W : WX} {Q : Bool → Hp → Prop} {out : Ex Bool} (p : PostT K T Z H σ W Q out) (e : Ext4 Z H Z1 H1) : PostT K T Z1 H1 σ W Q out :=
  ⟨fun r h Z' H' e' => p.ok r h Z' H' (e.trans e'), fun c ds h cls d Z' H' e' x => p.ex c ds h cls d Z' H' (e.trans e') x⟩
def tDT (K : PySem.W.Frag) (T : Tab) (W : WX) (f : FT) : TT := fun σ H Q =>
  ∃ H0 Z0 env Z out, f env = some out ∧ SI K T H0 Z0 env σ Z H ∧ PostT K T Z H σ W Q out
abbrev PDT (X : Cx) (T : Tab) (W : WX) (e : Expr) (f : FT) : Prop := PT X e (tDT X.K T W f)
abbrev PDW (X : Cx) (T : Tab) (W : WX) (e : Expr) (f : FT) : Prop := PW X e (tDT X.K T W f)
theorem PT.imp {X : Cx} {e : Expr} {t t' : TT} (h : PT X e t) (i : ∀ σ H Q, t' σ H Q → t σ H Q) : PT X e t' := ⟨fun pins s σ H Q I q => h.run pins s σ H Q I (i σ H Q q)⟩
theorem PW.imp {X : Cx} {e : Expr} {t t' : TT} (h : PW X e t) (i : ∀ σ H Q, t' σ H Q → t σ H Q) : PW X e t' := ⟨fun wh pins s σ H Q I q => h.run wh pins s σ H Q I (i σ H Q q)⟩
section
variable {K : PySem.W.Frag} {T : Tab} {W : WX} {H0 Z H : Hp} {Z0 : Hx} {env : PEnv} {σ : St}
theorem tD_bndT {fa : FE} {k : Rs → M Bool} {out : Ex Bool} {Q : Bool → Hp → Prop} {G : VK} (h : bnd (fa env) k = some out) (s : SI K T H0 Z0 env σ Z H) (p : PostT K T Z H σ W Q out)
    (go : ∀ r v Z1 H1, k r = some out → Ext4 Z H Z1 H1 → RRep K T H Z1 H1 v r → SI K T H0 Z0 env σ Z1 H1 → PostT K T Z1 H1 σ W Q out → G v H1) : tD K T W fa σ H G := by
  rcases bnd_cases h with ⟨c, ds, e1, e2⟩ | ⟨r, e1, e2⟩
  · exact ⟨H0, Z0, env, Z, _, e1, s, fun r q => (nomatch q), fun c' ds' q cls d Z' H' e x => by cases q; exact p.ex _ _ e2 cls d Z' H' e x⟩
  · refine ⟨H0, Z0, env, Z, _, e1, s, fun r' q v Z' H' e rr => ?_, fun c' ds' q => (nomatch q)⟩
    cases q
    exact go r v Z' H' e2 e rr (s.step e) (p.step e)
theorem tDT_bnd {fa : FT} {k : Bool → M Bool} {out : Ex Bool} {Q : Bool → Hp → Prop} {G : Bool → Hp → Prop} (h : bnd (fa env) k = some out) (s : SI K T H0 Z0 env σ Z H) (p : PostT K T Z H σ W Q out)
    (go : ∀ b Z1 H1, k b = some out → Ext4 Z H Z1 H1 → SI K T H0 Z0 env σ Z1 H1 → PostT K T Z1 H1 σ W Q out → G b H1) : tDT K T W fa σ H G := by
  rcases bnd_cases h with ⟨c, ds, e1, e2⟩ | ⟨r, e1, e2⟩
  · exact ⟨H0, Z0, env, Z, _, e1, s, fun r q => (nomatch q), fun c' ds' q cls d Z' H' e x => by cases q; exact p.ex _ _ e2 cls d Z' H' e x⟩
  · refine ⟨H0, Z0, env, Z, _, e1, s, fun r' q Z' H' e => ?_, fun c' ds' q => (nomatch q)⟩
    cases q
    exact go r Z' H' e2 e (s.step e) (p.step e)
end
def asB : Rs → M Bool
  | .fro (.bl b) => some (.ok b)
  | _ => none
@[simp] theorem asB_bl (b : Bool) : asB (.fro (.bl b)) = some (.ok b) := rfl
theorem asB_inv {r : Rs} {out : Ex Bool} (h : asB r = some out) : ∃ b, r = .fro (.bl b) ∧ out = .ok b := by
  unfold asB at h
  split at h
  · cases h; exact ⟨_, rfl, rfl⟩
  · cases h
def tru : Rs → M Bool
  | .fro .non => some (.ok false)
  | .fro (.bl b) => some (.ok b)
  | .fro (.int i) => some (.ok (i != 0))
  | .fro (.lst ds) => some (.ok (!ds.isEmpty))
  | .own ds => some (.ok (!ds.isEmpty))
  | .bor ds => some (.ok (!ds.isEmpty))
  | .fro (.tup ds) => some (.ok (!ds.isEmpty))
  | _ => none
def tB (f : FE) : FT := fun ρ => bnd (f ρ) asB
def tTru (f : FE) : FT := fun ρ => bnd (f ρ) tru
def tNot (t : FT) : FT := fun ρ => bnd (t ρ) fun b => some (.ok (!b))
def tAnd (t u : FT) : FT := fun ρ => bnd (t ρ) fun b => if b then u ρ else some (.ok false)
def tOr (t u : FT) : FT := fun ρ => bnd (t ρ) fun b => if b then some (.ok true) else u ρ
def eAnd (f g : FE) : FE := fun ρ => bnd (f ρ) fun r => bnd (asB r) fun b => if b then g ρ else vB false
def eOr (f g : FE) : FE := fun ρ => bnd (f ρ) fun r => bnd (asB r) fun b => if b then vB true else g ρ
def eNot (f : FE) : FE := fun ρ => bnd (f ρ) fun r => bnd (asB r) fun b => vB (!b)
def eIf (t : FT) (f g : FE) : FE := fun ρ => bnd (t ρ) fun b => if b then f ρ else g ρ
def eChain (g g' : G2) (fa fb fc : FE) : FE := fun ρ => bnd (fa ρ) fun x => bnd (fb ρ) fun y => bnd (g x y) fun z => bnd (asB z) fun b => if b then bnd (fc ρ) fun w => g' y w else vB false
section
variable {X : Cx} {T : Tab} {W : WX} {a b c : Expr} {fa fb fc : FE} {ta tb : FT} {pos : Pos} {rest : List Expr}
theorem reps_empty {K : PySem.W.Frag} {Z : Hp} {ds : List Dt} {vs : List V} (h : Reps K T Z ds vs) : ds.isEmpty = vs.isEmpty := by
  cases ds with
  | nil => rw [h.nil_inv]; rfl
  | cons d ds => obtain ⟨v, r, rfl, _⟩ := h.cons_inv; rfl
theorem pdt_tru (ha : PD X T W a fa) (he : ∀ whole, isTrue a X.env whole = (do let v ← whole; standAt a.pos; holding [v] (truthy v)) := by intro _; rfl) : PDT X T W a (tTru fa) := by
  refine PT.imp (pt_truth ha he) fun σ H Q ⟨H0, Z0, env, Z, out, h, s, p⟩ => ?_
  refine tD_bndT h s p fun r v Z1 H1 hk e1 rr s1 p1 => ?_
  unfold tru at hk
  split at hk <;> first | cases hk | skip
  · simp only [RRep, Rep] at rr; subst rr; exact ⟨_, rfl, p1.ok _ rfl Z1 H1 (Ext4.refl e1.zh)⟩
  · simp only [RRep, Rep] at rr; subst rr; exact ⟨_, rfl, p1.ok _ rfl Z1 H1 (Ext4.refl e1.zh)⟩
  · simp only [RRep, Rep] at rr; subst rr; exact ⟨_, rfl, p1.ok _ rfl Z1 H1 (Ext4.refl e1.zh)⟩
  · simp only [RRep, Rep] at rr
    obtain ⟨q, vs, rfl, h1, h2⟩ := rr
    exact ⟨_, .inl ⟨vs, e1.zh.seqL h1, by rw [reps_empty h2]⟩, p1.ok _ rfl Z1 H1 (Ext4.refl e1.zh)⟩
  · obtain ⟨q, vs, rfl, _, h1, _, h2⟩ := rr
    exact ⟨_, .inl ⟨vs, .of h1, by rw [reps_empty h2]⟩, p1.ok _ rfl Z1 H1 (Ext4.refl e1.zh)⟩
  · obtain ⟨q, vs, rfl, h1, h2⟩ := rr
    exact ⟨_, .inl ⟨vs, .of h1, by rw [reps_empty h2]⟩, p1.ok _ rfl Z1 H1 (Ext4.refl e1.zh)⟩
  · simp only [RRep, Rep] at rr
    obtain ⟨q, vs, rfl, h1, h2⟩ := rr
    exact ⟨_, .inr (.inl ⟨vs, e1.zh.seqT h1, by rw [reps_empty h2]⟩), p1.ok _ rfl Z1 H1 (Ext4.refl e1.zh)⟩
theorem pdt_cmp {op : CmpOp} {r : R2} {g : G2} (ho : OpR X (compareOp op) r) (h : Op2 X.K T W r g) (ha : PD X T W a fa) (hb : PD X T W b fb) (hm : behindInMarks op b = false) : PDT X T W (.Compare a [op] [b] pos) (tB (e2 g fa fb)) := by
  refine PT.imp (pt_cmpR ho ha hb hm) fun σ H Q ⟨H0, Z0, env, Z, out, hf, s, p⟩ => ?_
  have q : tD X.K T W (e2 g fa fb) σ H fun x H' => ∃ k, x = .bl k ∧ Q k H' :=
    tD_bndT hf s p fun r v Z1 H1 hk e1 rr s1 p1 => by
      obtain ⟨b, rfl, rfl⟩ := asB_inv hk
      simp only [RRep, Rep] at rr
      exact ⟨b, rr, p1.ok b rfl Z1 H1 (Ext4.refl e1.zh)⟩
  exact tOp_of h q
theorem pdt_lt (ha : PD X T W a fa) (hb : PD X T W b fb) : PDT X T W (.Compare a [.Lt] [b] pos) (tB (e2 gLt fa fb)) := pdt_cmp op_lt o2_B0 ha hb (nomark _)
theorem pdt_gt (ha : PD X T W a fa) (hb : PD X T W b fb) : PDT X T W (.Compare a [.Gt] [b] pos) (tB (e2 gGt fa fb)) := pdt_cmp op_gt o2_B0 ha hb (nomark _)
theorem pdt_not (ha : PDT X T W a ta) : PDT X T W (.UnaryOp .Not a pos) (tNot ta) := by
  refine PT.imp (pt_not ha) fun σ H Q ⟨H0, Z0, env, Z, out, h, s, p⟩ => ?_
  refine tDT_bnd h s p fun b Z1 H1 hk e1 s1 p1 => ?_
  cases hk
  exact p1.ok _ rfl Z1 H1 (Ext4.refl e1.zh)
theorem pdw_and1 (ha : PDT X T W a ta) : PDW X T W (.BoolOp .And [a] pos) ta := pw_and1 ha
theorem pdw_or1 (ha : PDT X T W a ta) : PDW X T W (.BoolOp .Or [a] pos) ta := pw_or1 ha
theorem pdw_and (ha : PDT X T W a ta) (hb : PDW X T W (.BoolOp .And (b :: rest) pos) tb) : PDW X T W (.BoolOp .And (a :: b :: rest) pos) (tAnd ta tb) := by
  refine PW.imp (pw_and ha hb) fun σ H Q ⟨H0, Z0, env, Z, out, h, s, p⟩ => ?_
  refine tDT_bnd h s p fun b Z1 H1 hk e1 s1 p1 => ?_
  cases b with
  | true => exact iteT ⟨H0, Z0, env, Z1, out, hk, s1, p1⟩
  | false => cases hk; exact iteF (p1.ok _ rfl Z1 H1 (Ext4.refl e1.zh))
theorem pdw_or (ha : PDT X T W a ta) (hb : PDW X T W (.BoolOp .Or (b :: rest) pos) tb) : PDW X T W (.BoolOp .Or (a :: b :: rest) pos) (tOr ta tb) := by
  refine PW.imp (pw_or ha hb) fun σ H Q ⟨H0, Z0, env, Z, out, h, s, p⟩ => ?_
  refine tDT_bnd h s p fun b Z1 H1 hk e1 s1 p1 => ?_
  cases b with
  | true => cases hk; exact iteT (p1.ok _ rfl Z1 H1 (Ext4.refl e1.zh))
  | false => exact iteF ⟨H0, Z0, env, Z1, out, hk, s1, p1⟩
theorem pdt_of (h : PDW X T W a ta) : PDT X T W a ta := PW.pt h
theorem pd_one {op} (ha : PD X T W a fa) : PD X T W (.BoolOp op [a] pos) fa := pe_one ha
theorem pd_and' (ha : PD X T W a fa) (hb : PD X T W (.BoolOp .And (b :: rest) pos) fb) : PD X T W (.BoolOp .And (a :: b :: rest) pos) (eAnd fa fb) := by
  refine PE.imp (pe_and ha hb) fun σ H Q ⟨H0, Z0, env, Z, out, h, s, p⟩ => ?_
  refine tD_bnd h s p fun r v Z1 H1 hk e1 rr s1 p1 => ?_
  rcases bnd_cases hk with ⟨c, ds, q1, q2⟩ | ⟨b, q1, q2⟩
  · obtain ⟨_, _, z⟩ := asB_inv q1; cases z
  · obtain ⟨b', rfl, z⟩ := asB_inv q1; cases z
    simp only [RRep, Rep] at rr
    refine ⟨b, rr, ?_⟩
    cases b with
    | true => exact iteT ⟨H0, Z0, env, Z1, out, q2, s1, p1⟩
    | false => cases q2; exact iteF (p1.fro e1.zh (by simp only [Rep]))
theorem pd_not (ha : PD X T W a fa) : PD X T W (.UnaryOp .Not a pos) (eNot fa) := by
  refine PE.imp (pe_not ha) fun σ H Q ⟨H0, Z0, env, Z, out, h, s, p⟩ => ?_
  refine tD_bnd h s p fun r v Z1 H1 hk e1 rr s1 p1 => ?_
  rcases bnd_cases hk with ⟨c, ds, q1, q2⟩ | ⟨b, q1, q2⟩
  · obtain ⟨_, _, z⟩ := asB_inv q1; cases z
  · obtain ⟨b', rfl, z⟩ := asB_inv q1; cases z
    simp only [RRep, Rep] at rr
    cases q2
    exact ⟨b, rr, p1.fro e1.zh (by simp only [Rep])⟩
end
def sclD : Dt → Dt → Option Bool
  | .non, .non => some true | .non, .int _ => some false | .int _, .non => some false | .non, .bl _ => some false | .bl _, .non => some false | .non, .str _ => some false | .str _, .non => some false
  | .int i, .int j => some (decide (i = j)) | .bl i, .bl j => some (decide (i = j)) | .str i, .str j => some (decide (i = j))
  | .int _, .str _ => some false | .str _, .int _ => some false | .bl _, .str _ => some false | .str _, .bl _ => some false
  | _, _ => none
def gEqS : G2
  | .fro a, .fro b => match sclD a b with | some r => vB r | none => none
  | _, _ => none
def gNeS : G2
  | .fro a, .fro b => match sclD a b with | some r => vB (!r) | none => none
  | _, _ => none
theorem sclD_ok {K : PySem.W.Frag} {T : Tab} {Z : Hp} {a b : Dt} {v w : V} {r : Bool} (h : sclD a b = some r) (h1 : Rep K T Z a v) (h2 : Rep K T Z b w) : scal v w = true ∧ decide (v = w) = r := by
  cases a <;> cases b <;> first | (cases h; done) | (simp only [Rep] at h1 h2; subst h1 h2; simp only [sclD, Option.some.injEq] at h; subst h; exact ⟨rfl, by simp⟩)
section
variable {X : Cx} {T : Tab} {W : WX} {a b c : Expr} {fa fb fc : FE} {pos : Pos}
theorem o2_eqS {K : PySem.W.Frag} : Op2 K T W rEq gEqS := fun σ B Z H x y v w out Q zh r1 r2 hg p => by
  unfold gEqS at hg
  split at hg
  · split at hg
    · rename_i r hr
      cases hg
      obtain ⟨e1, e2⟩ := sclD_ok hr r1 r2
      exact ⟨e1, by rw [e2]; exact p.fro zh (by simp only [Rep])⟩
    · cases hg
  · cases hg
theorem o2_neS {K : PySem.W.Frag} : Op2 K T W rNe gNeS := fun σ B Z H x y v w out Q zh r1 r2 hg p => by
  unfold gNeS at hg
  split at hg
  · split at hg
    · rename_i r hr
      cases hg
      obtain ⟨e1, e2⟩ := sclD_ok hr r1 r2
      exact ⟨e1, by rw [e2]; exact p.fro zh (by simp only [Rep])⟩
    · cases hg
  · cases hg
theorem pd_eqS (ha : PD X T W a fa) (hb : PD X T W b fb) : PD X T W (.Compare a [.Eq] [b] pos) (e2 gEqS fa fb) := pd_cmp op_eq o2_eqS ha hb (nomark _)
theorem pdt_eqS (ha : PD X T W a fa) (hb : PD X T W b fb) : PDT X T W (.Compare a [.Eq] [b] pos) (tB (e2 gEqS fa fb)) := pdt_cmp op_eq o2_eqS ha hb (nomark _)
theorem pdt_neS (ha : PD X T W a fa) (hb : PD X T W b fb) : PDT X T W (.Compare a [.NotEq] [b] pos) (tB (e2 gNeS fa fb)) := pdt_cmp op_ne o2_neS ha hb (nomark _)
def isNon : Dt → Bool
  | .non => true
  | _ => false
theorem isNon_ok {K : PySem.W.Frag} {Z : Hp} {a : Dt} {v : V} (h : Rep K T Z a v) : decide (v = .non) = isNon a := by
  cases a <;> simp only [Rep] at h <;> first | (subst h; rfl) | (obtain ⟨_, _, rfl, _⟩ := h; rfl) | (obtain ⟨_, _, _, rfl, _⟩ := h; rfl)
def gIsN : G2
  | .fro a, .fro .non => vB (isNon a)
  | _, _ => none
theorem o2_isN {K : PySem.W.Frag} : Op2 K T W (fun x y H Q => y = .non ∧ Q (.bl (decide (x = .non))) H) gIsN := fun σ B Z H x y v w out Q zh r1 r2 hg p => by
  unfold gIsN at hg
  split at hg
  · cases hg
    refine ⟨by simpa only [RRep, Rep] using r2, ?_⟩
    rw [isNon_ok r1]
    exact p.fro zh (by simp only [Rep])
  · cases hg
theorem pdt_isN (ha : PD X T W a fa) (hb : PD X T W b fb) : PDT X T W (.Compare a [.Is] [b] pos) (tB (e2 gIsN fa fb)) := pdt_cmp op_isN o2_isN ha hb (nomark _)
def gNeg : G1
  | .fro (.int i) => vI (-i)
  | _ => none
theorem pd_neg (ha : PD X T W a fa) : PD X T W (.UnaryOp .USub a pos) (e1 gNeg fa) := pd_un un_neg (fun σ B Z H x v out Q zh r1 hg p => by
  unfold gNeg at hg
  split at hg
  · cases hg
    simp only [RRep, Rep] at r1
    exact ⟨_, r1, p.fro zh (by simp only [Rep])⟩
  · cases hg) ha
end
inductive Out where
  | nx (env : PEnv) | rt (r : Rs) | bk (env : PEnv) | ct (env : PEnv) | xc (c : Nat) (ds : List Dt) (env : PEnv)
abbrev FS := PEnv → Option Out
structure PostS (K : PySem.W.Frag) (T : Tab) (H0 : Hp) (Z0 : Hx) (W : WX) (D : Ends) (out : Out) : Prop where
  nx : ∀ env, out = .nx env → ∀ σ Z H, SI K T H0 Z0 env σ Z H → D.nx σ H
  rt : ∀ r, out = .rt r → ∀ v Z H, Ext4 Z0.1 H0 Z H → RRep K T H0 Z H v r → D.rt v H
  bk : ∀ env, out = .bk env → ∀ σ Z H, SI K T H0 Z0 env σ Z H → D.bk σ H
  ct : ∀ env, out = .ct env → ∀ σ Z H, SI K T H0 Z0 env σ Z H → D.ct σ H
  xc : ∀ c ds env, out = .xc c ds env → ∀ cls d σ Z H, SI K T H0 Z0 env σ Z H → XRep K T Z H cls d c ds → W cls d σ H
def tDS (K : PySem.W.Frag) (T : Tab) (W : WX) (F : FS) : TS := fun D σ H => ∃ H0 Z0 env Z out, F env = some out ∧ SI K T H0 Z0 env σ Z H ∧ PostS K T H0 Z0 W D out
abbrev PDS (X : Cx) (T : Tab) (W : WX) (st : Stmt) (F : FS) : Prop := PS X st (tDS X.K T W F)
abbrev PDSs (X : Cx) (T : Tab) (W : WX) (st : List Stmt) (F : FS) : Prop := PSs X st (tDS X.K T W F)
theorem PS.imp {X : Cx} {e : Stmt} {t t' : TS} (h : PS X e t) (i : ∀ D σ H, t' D σ H → t D σ H) : PS X e t' := ⟨fun pins s σ H D I q => h.run pins s σ H D I (i D σ H q)⟩
theorem PSs.imp {X : Cx} {e : List Stmt} {t t' : TS} (h : PSs X e t) (i : ∀ D σ H, t' D σ H → t D σ H) : PSs X e t' := ⟨fun pins s σ H D I q => h.run pins s σ H D I (i D σ H q)⟩
def bndS {α : Type} (ρ : PEnv) (m : M α) (k : α → Option Out) : Option Out :=
  match m with
  | none => none
  | some (.ok a) => k a
  | some (.ex c ds) => some (.xc c ds ρ)
@[simp] theorem bndS_ok {α : Type} (ρ : PEnv) (a : α) (k : α → Option Out) : bndS ρ (some (.ok a)) k = k a := rfl
@[simp] theorem bndS_ex {α : Type} (ρ : PEnv) (c : Nat) (ds : List Dt) (k : α → Option Out) : bndS ρ (some (.ex c ds)) k = some (.xc c ds ρ) := rfl
@[simp] theorem bndS_none {α : Type} (ρ : PEnv) (k : α → Option Out) : bndS ρ (none : M α) k = none := rfl
theorem bndS_cases {α : Type} {ρ : PEnv} {m : M α} {k : α → Option Out} {out : Out} (h : bndS ρ m k = some out) : (∃ c ds, m = some (.ex c ds) ∧ out = .xc c ds ρ) ∨ (∃ r, m = some (.ok r) ∧ k r = some out) := by
  cases m with
  | none => cases h
  | some x =>
    cases x with
    | ok a => exact .inr ⟨a, rfl, h⟩
    | ex c ds => cases h; exact .inl ⟨c, ds, rfl, rfl⟩
section
variable {K : PySem.W.Frag} {T : Tab} {W : WX} {H0 Z H : Hp} {Z0 : Hx} {env : PEnv} {σ : St} {D : Ends} {out : Out}
theorem tD_bndS {fa : FE} {k : Rs → Option Out} {G : VK} (h : bndS env (fa env) k = some out) (s : SI K T H0 Z0 env σ Z H) (p : PostS K T H0 Z0 W D out)
    (go : ∀ r v Z1 H1, k r = some out → Ext4 Z H Z1 H1 → RRep K T H Z1 H1 v r → SI K T H0 Z0 env σ Z1 H1 → G v H1) : tD K T W fa σ H G := by
  rcases bndS_cases h with ⟨c, ds, e1, e2⟩ | ⟨r, e1, e2⟩
  · exact ⟨H0, Z0, env, Z, _, e1, s, fun r q => (nomatch q), fun c' ds' q cls d Z' H' e x => by cases q; exact p.xc _ _ _ e2 cls d σ Z' H' (s.step e) x⟩
  · refine ⟨H0, Z0, env, Z, _, e1, s, fun r' q v Z' H' e rr => ?_, fun c' ds' q => (nomatch q)⟩
    cases q
    exact go r v Z' H' e2 e rr (s.step e)
theorem tD_bndSF {fa : FE} {k : Dt → Option Out} {G : VK} (h : bndS env (fa env) (fun r => bndS env (frz r) k) = some out) (s : SI K T H0 Z0 env σ Z H) (p : PostS K T H0 Z0 W D out)
    (go : ∀ d v Z1 H1, k d = some out → Ext4 Z H Z1 H1 → Rep K T Z1 d v → SI K T H0 Z0 env σ Z1 H1 → G v H1) : tD K T W fa σ H G := by
  refine tD_bndS h s p fun r v Z1 H1 hk e rr s1 => ?_
  rcases bndS_cases hk with ⟨c, ds, e1, e2⟩ | ⟨d, e1, e2⟩
  · cases r <;> cases e1
  · obtain ⟨Z2, x, _, y⟩ := rr.freeze e1 e
    exact go d v Z2 H1 e2 x y (s.step x)
theorem tDT_bndS {fa : FT} {k : Bool → Option Out} {G : Bool → Hp → Prop} (h : bndS env (fa env) k = some out) (s : SI K T H0 Z0 env σ Z H) (p : PostS K T H0 Z0 W D out)
    (go : ∀ b Z1 H1, k b = some out → Ext4 Z H Z1 H1 → SI K T H0 Z0 env σ Z1 H1 → G b H1) : tDT K T W fa σ H G := by
  rcases bndS_cases h with ⟨c, ds, e1, e2⟩ | ⟨r, e1, e2⟩
  · exact ⟨H0, Z0, env, Z, _, e1, s, fun r q => (nomatch q), fun c' ds' q cls d Z' H' e x => by cases q; exact p.xc _ _ _ e2 cls d σ Z' H' (s.step e) x⟩
  · refine ⟨H0, Z0, env, Z, _, e1, s, fun r' q Z' H' e => ?_, fun c' ds' q => (nomatch q)⟩
    cases q
    exact go r Z' H' e2 e (s.step e)
theorem SI.setFro (s : SI K T H0 Z0 env σ Z H) {i : Nat} {d : Dt} {v : V} (r : Rep K T Z d v) : SI K T H0 Z0 (env.set i (some (.fro d))) (σ.set i (some v)) Z H := by
  refine ⟨s.ext, by simp [s.len], fun j c h => ?_, fun j k u hjk h1 h2 h3 h4 => ?_, fun j c' ds' v' h h' => ?_⟩
  rotate_right 1
  · by_cases q : i = j
    · subst q
      by_cases hl : i < env.length
      · rw [List.getElem?_set_self hl] at h; cases h
      · rw [List.getElem?_eq_none (by simpa using hl)] at h; cases h
    · rw [List.getElem?_set_ne q] at h h'; exact s.me j _ _ _ h h'
  · by_cases q : i = j
    · subst q
      have hl : i < env.length := by
        have := (List.getElem?_eq_some_iff.mp h).1
        simpa using this
      rw [List.getElem?_set_self hl] at h
      cases h
      exact ⟨v, by rw [List.getElem?_set_self (by rw [← s.len]; exact hl)], r⟩
    · rw [List.getElem?_set_ne q] at h
      obtain ⟨u, h1, h2⟩ := s.cell j c h
      exact ⟨u, by rw [List.getElem?_set_ne q]; exact h1, h2⟩
  · have nf : ∀ m, isOwnC ((env.set i (some (.fro d)))[m]?) → i ≠ m ∧ isOwnC env[m]? := fun m hm => by
      by_cases q : i = m
      · subst q
        by_cases hl : i < env.length
        · rw [List.getElem?_set_self hl] at hm; exact hm.elim
        · rw [List.getElem?_eq_none (by simpa using hl)] at hm; exact hm.elim
      · rw [List.getElem?_set_ne q] at hm; exact ⟨q, hm⟩
    obtain ⟨a1, a2⟩ := nf j h1
    obtain ⟨b1, b2⟩ := nf k h2
    rw [List.getElem?_set_ne a1] at h3
    rw [List.getElem?_set_ne b1] at h4
    exact s.sep j k u hjk a2 b2 h3 h4
theorem SI.setOwn (s : SI K T H0 Z0 env σ Z H) {i : Nat} {ds : List Dt} {q : Addr} (r : CRep K T H0 Z H (.ref q) (.own ds)) (n : ∀ (j : Nat), isOwnC env[j]? → σ[j]? = some (some (.ref q)) → i = j) : SI K T H0 Z0 (env.set i (some (.own ds))) (σ.set i (some (.ref q))) Z H := by
  refine ⟨s.ext, by simp [s.len], fun j c' h => ?_, fun j k u hjk h1 h2 h3 h4 => ?_, fun j c' ds' v' h h' => ?_⟩
  rotate_right 1
  · by_cases e : i = j
    · subst e
      by_cases hl : i < env.length
      · rw [List.getElem?_set_self hl] at h; cases h
      · rw [List.getElem?_eq_none (by simpa using hl)] at h; cases h
    · rw [List.getElem?_set_ne e] at h h'; exact s.me j _ _ _ h h'
  · by_cases e : i = j
    · subst e
      have hl : i < env.length := by
        have := (List.getElem?_eq_some_iff.mp h).1
        simpa using this
      rw [List.getElem?_set_self hl] at h
      cases h
      exact ⟨_, by rw [List.getElem?_set_self (by rw [← s.len]; exact hl)], r⟩
    · rw [List.getElem?_set_ne e] at h
      obtain ⟨u, h1, h2⟩ := s.cell j c' h
      exact ⟨u, by rw [List.getElem?_set_ne e]; exact h1, h2⟩
  · by_cases a : i = j
    · subst a
      have b : i ≠ k := hjk
      rw [List.getElem?_set_ne b] at h2 h4
      have hl : i < σ.length := by
        have := (List.getElem?_eq_some_iff.mp h3).1
        simpa using this
      rw [List.getElem?_set_self hl] at h3
      cases h3
      exact b (n k h2 h4)
    · rw [List.getElem?_set_ne a] at h1 h3
      by_cases b : i = k
      · subst b
        have hl : i < σ.length := by
          have := (List.getElem?_eq_some_iff.mp h4).1
          simpa using this
        rw [List.getElem?_set_self hl] at h4
        cases h4
        exact a (n j h1 h3)
      · rw [List.getElem?_set_ne b] at h2 h4
        exact s.sep j k u hjk h1 h2 h3 h4
theorem SI.ownAt (s : SI K T H0 Z0 env σ Z H) {j : Nat} {v : V} (h : isOwnC env[j]?) (e : σ[j]? = some (some v)) : ∃ q o, v = .ref q ∧ H q = some o ∧ H0 q = none ∧ Z q = none := by
  match he : env[j]?, h with
  | some (some (.own ds)), _ =>
    obtain ⟨u, h1, q, vs, rfl, b, hq, zq, _⟩ := s.cell j _ he
    rw [e] at h1; cases h1
    exact ⟨q, _, rfl, hq, b, zq⟩
  | some (some (.mk c ds)), _ =>
    obtain ⟨u, h1, q, dx, vs, rfl, b, hq, zq, _⟩ := s.cell j _ he
    rw [e] at h1; cases h1
    exact ⟨q, _, rfl, hq, b, zq⟩
end
def celOf : Rs → Option Cel
  | .fro d => some (.fro d)
  | .own ds => some (.own ds)
  | .bor _ => none
def sSet (i : Nat) (f : FE) : FS := fun ρ => bndS ρ (f ρ) fun r => match celOf r with
  | some c => some (.nx (ρ.set i (some c)))
  | none => none
def sSeq (F G : FS) : FS := fun ρ => match F ρ with
  | some (.nx ρ') => G ρ'
  | o => o
def sNext : FS := fun ρ => some (.nx ρ)
def sRet (f : FE) : FS := fun ρ => bndS ρ (f ρ) fun r => match r with
  | .bor _ => none
  | r => some (.rt r)
def sRetV (i : Nat) : FS := fun ρ => match ρ[i]? with
  | some (some (.own ds)) => some (.rt (.own ds))
  | some (some (.fro d)) => some (.rt (.fro d))
  | _ => none
def sExpr (f : FE) : FS := fun ρ => bndS ρ (f ρ) fun _ => some (.nx ρ)
def sIf (t : FT) (F G : FS) : FS := fun ρ => bndS ρ (t ρ) fun b => if b then F ρ else G ρ
def sFrz (i : Nat) (F : FS) : FS := fun ρ => match ρ[i]? with
  | some (some (.own ds)) => F (ρ.set i (some (.fro (.lst ds))))
  | _ => F ρ
section
variable {X : Cx} {T : Tab} {W : WX} {st : Stmt} {rest : List Stmt} {e : Expr} {f : FE} {F G : FS} {pos : Pos}
theorem pds_set (i : Nat) {x : Str} {pos' : Pos} (hN : X.N.Nodup) (he : PD X T W e f) (hi : X.N[i]? = some x := by rfl) (hx : Loc X.env.scope x := by first | exact Or.inl rfl | exact Or.inr rfl) (hs : swapsWith e (some (.Name x pos')) pos.line X.env = pure false := by rfl)
    (hf : X.fn x = true ∨ X.env.scope.names.lookup x = some .local := by first | exact .inl rfl | exact .inr rfl) : PDS X T W (.Assign [.Name x pos'] e pos) (sSet i f) := by
  refine PS.imp (ps_set hN hi hx he hs hf) fun D σ H ⟨H0, Z0, env, Z, out, h, s, p⟩ => ?_
  refine tD_bndS h s p fun r v Z1 H1 hk e1 rr s1 => ?_
  cases r with
  | fro d =>
    cases hk
    exact p.nx _ rfl _ Z1 H1 (s1.setFro rr)
  | own ds =>
    cases hk
    obtain ⟨q, vs, rfl, b, hq, zq, rs⟩ := rr
    refine p.nx _ rfl _ Z1 H1 (s1.setOwn (ds := ds) ⟨q, vs, rfl, s.ext.hh.free b, hq, zq, rs⟩ fun j hj hσ => ?_)
    obtain ⟨q', o, e', h', _⟩ := s.ownAt hj hσ
    cases e'
    rw [h'] at b; cases b
  | bor ds => cases hk
theorem pdss_nil : PDSs X T W [] sNext := PSs.imp pss_nil fun D σ H ⟨H0, Z0, env, Z, out, h, s, p⟩ => by
  cases h
  exact p.nx _ rfl σ Z H s
theorem pdss_cons (h1 : PDS X T W st F) (h2 : PDSs X T W rest G) : PDSs X T W (st :: rest) (sSeq F G) := by
  refine PSs.imp (pss_cons h1 h2) fun D σ H ⟨H0, Z0, env, Z, out, h, s, p⟩ => ?_
  unfold sSeq at h
  split at h
  · rename_i ρ' hF
    exact ⟨H0, Z0, env, Z, _, hF, s, fun env' q σ' Z' H' s' => by cases q; exact ⟨H0, Z0, _, Z', out, h, s', p⟩, fun r q => (nomatch q), fun r q => (nomatch q), fun r q => (nomatch q), fun r _ _ q => (nomatch q)⟩
  · rename_i hne
    refine ⟨H0, Z0, env, Z, out, h, s, fun env' q σ' Z' H' s' => ?_, p.rt, p.bk, p.ct, p.xc⟩
    exact absurd h (by rw [q]; exact hne env')
theorem pdss_one (h1 : PDS X T W st F) : PDSs X T W [st] F := pss_one h1
theorem pds_ret (he : PD X T W e f) : PDS X T W (.Return (some e) pos) (sRet f) := by
  refine PS.imp (ps_ret he) fun D σ H ⟨H0, Z0, env, Z, out, h, s, p⟩ => ?_
  refine tD_bndS h s p fun r v Z1 H1 hk e1 rr s1 => ?_
  cases r with
  | fro d => cases hk; exact p.rt _ rfl v Z1 H1 s1.ext (rr.base s.ext.hh)
  | own d => cases hk; exact p.rt _ rfl v Z1 H1 s1.ext (rr.base s.ext.hh)
  | bor d => cases hk
theorem pds_retV (i : Nat) {x : Str} {pos' : Pos} (hN : X.N[i]? = some x := by rfl) (hv : Vis X.env.scope x := by first | exact Or.inl rfl | exact Or.inr (Or.inl rfl) | exact Or.inr (Or.inr rfl)) (hd : (x == ("__debug__" : Str)) = false := by decide)
    (hcd : (x == ("__classdict__" : Str)) = false := by decide) : PDS X T W (.Return (some (.Name x pos')) pos) (sRetV i) := by
  refine PS.imp (ps_ret (pe_var hN hv hd hcd)) fun D σ H ⟨H0, Z0, env, Z, out, h, s, p⟩ => ?_
  unfold sRetV at h
  split at h
  · rename_i ds he
    cases h
    obtain ⟨v, e1, r⟩ := s.cell i _ he
    exact ⟨v, e1, p.rt _ rfl v Z H s.ext r⟩
  · rename_i ds he
    cases h
    obtain ⟨v, e1, r⟩ := s.cell i _ he
    exact ⟨v, e1, p.rt _ rfl v Z H s.ext r⟩
  · cases h
theorem pds_if {t : FT} {a b : List Stmt} (ht : PDT X T W e t) (ha : PDSs X T W a F) (hb : PDSs X T W b G) : PDS X T W (.If e a b pos) (sIf t F G) := by
  refine PS.imp (ps_if ht ha hb) fun D σ H ⟨H0, Z0, env, Z, out, h, s, p⟩ => ?_
  refine tDT_bndS h s p fun b Z1 H1 hk e1 s1 => ?_
  cases b with
  | true => exact iteT ⟨H0, Z0, env, Z1, out, hk, s1, p⟩
  | false => exact iteF ⟨H0, Z0, env, Z1, out, hk, s1, p⟩
theorem frz_of {K : PySem.W.Frag} {i : Nat} {D : Ends} {σ : St} {H : Hp} (h : tDS K T W (sFrz i F) D σ H) : tDS K T W F D σ H := by
  obtain ⟨H0, Z0, env, Z, out, h, s, p⟩ := h
  unfold sFrz at h
  split at h
  · rename_i ds he
    obtain ⟨v, e1, q, vs, rfl, b, hq, zq, rs⟩ := s.cell i _ he
    have ex := s.ext.freeze b zq hq
    have lz : Le Z (upd Z q (.lst vs)) := Le.upd zq
    have hl : i < env.length := (List.getElem?_eq_some_iff.mp he).1
    have oi : isOwnC env[i]? := by rw [he]; exact True.intro
    refine ⟨H0, Z0, _, upd Z q (.lst vs), out, h, ⟨ex, by simp [s.len], fun j c hj => ?_, fun j k u hjk h1 h2 h3 h4 => ?_, fun j c' ds' v' hj h' => ?_⟩, p⟩
    rotate_right 1
    · by_cases e : i = j
      · subst e
        rw [List.getElem?_set_self hl] at hj; cases hj
      · rw [List.getElem?_set_ne e] at hj; exact s.me j _ _ _ hj h'
    · by_cases e : i = j
      · subst e
        rw [List.getElem?_set_self hl] at hj
        cases hj
        refine ⟨_, e1, ?_⟩
        show Rep K T _ (.lst ds) _
        simp only [Rep]
        exact ⟨q, vs, rfl, .of upd_same, rs.mono lz⟩
      · rw [List.getElem?_set_ne e] at hj
        obtain ⟨u, h1, h2⟩ := s.cell j c hj
        refine ⟨u, h1, ?_⟩
        cases c with
        | fro d => exact Rep.mono lz h2
        | own es =>
          obtain ⟨q2, ws, rfl, b2, hq2, zq2, rs2⟩ := h2
          have ne : q2 ≠ q := fun z => by
            subst z
            exact s.sep i j _ e oi (by rw [hj]; exact True.intro) e1 h1
          exact ⟨q2, ws, rfl, b2, hq2, by rw [upd_ne ne]; exact zq2, rs2.mono lz⟩
        | mk c es =>
          obtain ⟨q2, dx, ws, rfl, b2, hq2, zq2, rs2⟩ := h2
          have ne : q2 ≠ q := fun z => by
            subst z
            exact s.sep i j _ e oi (by rw [hj]; exact True.intro) e1 h1
          exact ⟨q2, dx, ws, rfl, b2, hq2, by rw [upd_ne ne]; exact zq2, rs2.mono lz⟩
    · have nf : ∀ m : Nat, isOwnC ((env.set i (some (.fro (.lst ds))))[m]?) → isOwnC env[m]? := fun m hm => by
        by_cases z : i = m
        · subst z; exact oi
        · rw [List.getElem?_set_ne z] at hm; exact hm
      exact s.sep j k u hjk (nf j h1) (nf k h2) h3 h4
  · exact ⟨H0, Z0, env, Z, out, h, s, p⟩
theorem pds_frz (i : Nat) (h : PDS X T W st F) : PDS X T W st (sFrz i F) := PS.imp h fun _ _ _ q => frz_of q
end
abbrev Fn := List Dt → M Rs
def spD (K : PySem.W.Frag) (T : Tab) (f : Fn) : Sp := fun vs H Q E => ∃ Z ds out, Le Z H ∧ Reps K T Z ds vs ∧ f ds = some out ∧
  (∀ r, out = .ok r → ∀ v Z' H', Ext4 Z H Z' H' → RRep K T H Z' H' v r → Q v H') ∧
  (∀ c es, out = .ex c es → ∀ cls d Z' H', Ext4 Z H Z' H' → XRep K T Z' H' cls d c es → E cls d H')
def outR : Option Out → M Rs
  | some (.rt r) => some (.ok r)
  | some (.nx _) => some (.ok (.fro .non))
  | some (.xc c ds _) => some (.ex c ds)
  | _ => none
def fnD (np nl : Nat) (F : FS) : Fn := fun args => if args.length = np then outR (F (args.map (fun d => some (.fro d)) ++ List.replicate nl none)) else none
theorem fnD_len {np nl : Nat} {F : FS} {ds : List Dt} {out : Ex Rs} (h : fnD np nl F ds = some out) : ds.length = np := by
  unfold fnD at h
  split at h
  · assumption
  · cases h
section
variable {K : PySem.W.Frag} {T : Tab}
theorem SI.start {Z H : Hp} {ds : List Dt} {vs : List V} {N : List Str} {nl : Nat} (zh : Le Z H) (r : Reps K T Z ds vs) (hn : N.length = ds.length + nl) : SI K T H (Z, 0) (ds.map (fun d => some (.fro d)) ++ List.replicate nl none) (start N vs) Z H := by
  have hl := r.length
  have cellq : ∀ (i : Nat) (c : Cel), (ds.map (fun d => some (Cel.fro d)) ++ List.replicate nl none)[i]? = some (some c) → ∃ d, c = .fro d ∧ ds[i]? = some d := fun i c h => by
    by_cases hi : i < ds.length
    · rw [List.getElem?_append_left (by simpa using hi), List.getElem?_map] at h
      cases e : ds[i]? with
      | none => rw [e] at h; cases h
      | some d => rw [e] at h; cases h; exact ⟨d, rfl, rfl⟩
    · rw [List.getElem?_append_right (by simpa using hi), List.getElem?_replicate] at h
      split at h <;> cases h
  refine ⟨Ext4.refl zh, ?_, fun i c h => ?_, fun i j v _ h1 _ _ _ => ?_, fun i c ds' v h _ => ?_⟩
  rotate_right 1
  · obtain ⟨d, e, _⟩ := cellq i _ h; cases e
  · unfold L2.start
    simp only [List.length_append, List.length_map, List.length_replicate]
    omega
  · obtain ⟨d, rfl, e⟩ := cellq i c h
    obtain ⟨v, h1, h2⟩ := r.get e
    refine ⟨v, ?_, h2⟩
    unfold L2.start
    have hi : i < vs.length := (List.getElem?_eq_some_iff.mp h1).1
    rw [List.getElem?_append_left (by simpa using hi), List.getElem?_map, h1]
    rfl
  · generalize hx : (ds.map (fun d => some (Cel.fro d)) ++ List.replicate nl none)[i]? = x at h1
    match x, h1 with
    | some (some (.own es)), _ => obtain ⟨d, e, _⟩ := cellq i _ hx; cases e
    | some (some (.mk c es)), _ => obtain ⟨d, e, _⟩ := cellq i _ hx; cases e
theorem spD_len {f : Fn} {n : Nat} (hn : ∀ ds out, f ds = some out → ds.length = n) : ∀ vs H Q E, spD K T f vs H Q E → vs.length = n := fun vs H Q E h => by
  obtain ⟨Z, ds, out, zh, r, hf, _⟩ := h
  rw [r.length]
  exact hn _ _ hf
theorem body_of {np nl : Nat} {F : FS} {N : List Str} {vs : List V} {H : Hp} {Q : VK} {E : XK} (hN : N.length = np + nl) (h : spD K T (fnD np nl F) vs H Q E) : tDS K T (fun cls d _ H => E cls d H) F { nx := fun _ H' => Q .non H', rt := Q } (start N vs) H := by
  obtain ⟨Z, ds, out, zh, r, hf, ok, ex⟩ := h
  have hl := fnD_len hf
  unfold fnD at hf
  rw [if_pos hl] at hf
  have s := SI.start (K := K) (T := T) (N := N) (nl := nl) zh r (by rw [hl]; exact hN)
  generalize hF : F (ds.map (fun d => some (.fro d)) ++ List.replicate nl none) = fo at hf
  match fo, hf with
  | some (.rt r), hf =>
    cases hf
    exact ⟨H, (Z, 0), _, Z, _, hF, s, fun _ q => (nomatch q), fun r' q v Z' H' e rr => by cases q; exact ok _ rfl v Z' H' e rr, fun _ q => (nomatch q), fun _ q => (nomatch q), fun _ _ _ q => (nomatch q)⟩
  | some (.nx ρ), hf =>
    cases hf
    exact ⟨H, (Z, 0), _, Z, _, hF, s, fun env' q σ' Z' H' s' => ok _ rfl _ Z' H' s'.ext (by simp only [RRep, Rep]), fun _ q => (nomatch q), fun _ q => (nomatch q), fun _ q => (nomatch q), fun _ _ _ q => (nomatch q)⟩
  | some (.xc c es ρ), hf =>
    cases hf
    exact ⟨H, (Z, 0), _, Z, _, hF, s, fun _ q => (nomatch q), fun _ q => (nomatch q), fun _ q => (nomatch q), fun _ q => (nomatch q), fun c' ds' env' q cls d σ' Z' H' s' x => by cases q; exact ex _ _ rfl cls d Z' H' s'.ext x⟩
  | some (.bk ρ), hf => cases hf
  | some (.ct ρ), hf => cases hf
  | none, hf => cases hf
theorem fnOk_of {P : Program} {w : World} {mg : Str → Option Value} {base : Heap} {x qual : Str} {params : Arguments} {body : List Stmt} {scope : Scope} {dvs : List V} {kws : List (Str × V)} {f : Addr} {fd : FuncData} {N ps : List Str} {k np nl : Nat} {F : FS}
    (Fd : FunD K x qual params body scope dvs kws f fd) (S : FnScope N ps scope) (hp : ps.length = np := by rfl) (hN : N.length = np + nl := by rfl)
    (hbody : ∀ (cdv : Value) (A : Around) (outer : List Env) (s : Shared) (H : Hp) (E : XK), Room k (A.deeper (envOfC qual scope s.heap.objs.size f cdv)) →
      Takes (cxOf (L2.CX P w) P w K mg base N qual scope f cdv A outer s H E) (fun cls d _ H => E cls d H) →
      PDSs (cxOf (L2.CX P w) P w K mg base N qual scope f cdv A outer s H E) T (fun cls d _ H => E cls d H) body F) : FnOk P w K mg base (L2.CX P w) (k + 1) f fd ps (spD K T (fnD np nl F)) := by
  refine Fd.ok S (fun vs H Q E h => (spD_len (fun _ _ => fnD_len) vs H Q E h).trans hp.symm) fun cdv A outer s H vs Q E hr h => ⟨_, hbody cdv A outer s H E hr (takes_of rfl rfl rfl rfl), body_of hN h⟩
end
end Pd
set_option maxHeartbeats 2000000
namespace Pd
open PySem PySem.Spec L2
open PyProof.Rows (envOfC)
abbrev FA := PEnv → M (List Dt)
structure PostA (K : PySem.W.Frag) (T : Tab) (Z H : Hp) (σ : St) (W : WX) (Q : List V → Hp → Prop) (out : Ex (List Dt)) : Prop where
  ok : ∀ ds, out = .ok ds → ∀ vs Z' H', Ext4 Z H Z' H' → Reps K T Z' ds vs → Q vs H'
  ex : ∀ c ds, out = .ex c ds → ∀ cls d Z' H', Ext4 Z H Z' H' → XRep K T Z' H' cls d c ds → W cls d σ H'
def tDA (K : PySem.W.Frag) (T : Tab) (W : WX) (f : FA) : TA := fun σ H Q =>
  ∃ H0 Z0 env Z out, f env = some out ∧ SI K T H0 Z0 env σ Z H ∧ PostA K T Z H σ W Q out
abbrev PDA (X : Cx) (T : Tab) (W : WX) (es : List Expr) (f : FA) : Prop := PA X es (tDA X.K T W f)
theorem PA.imp {X : Cx} {e : List Expr} {t t' : TA} (h : PA X e t) (i : ∀ σ H Q, t' σ H Q → t σ H Q) : PA X e t' := ⟨fun pos pins s σ H Q I q => h.run pos pins s σ H Q I (i σ H Q q)⟩
theorem PK.imp {X : Cx} {e : List Keyword} {t t' : TA} (h : PK X e t) (i : ∀ σ H Q, t' σ H Q → t σ H Q) : PK X e t' := ⟨fun pos pins s σ H Q I q => h.run pos pins s σ H Q I (i σ H Q q)⟩
def aNil : FA := fun _ => some (.ok [])
def aCons (f : FE) (fs : FA) : FA := fun ρ => bnd (f ρ) fun r => bnd (frz r) fun d => bnd (fs ρ) fun ds => some (.ok (d :: ds))
section
variable {X : Cx} {T : Tab} {W : WX} {e : Expr} {es : List Expr} {f : FE} {fs : FA}
theorem tCons_of {K : PySem.W.Frag} {σ : St} {H : Hp} {Q : List V → Hp → Prop} (h : tDA K T W (aCons f fs) σ H Q) : tCons (tD K T W f) (tDA K T W fs) σ H Q := by
  obtain ⟨H0, Z0, env, Z, out, h, s, p⟩ := h
  rcases bnd_cases h with ⟨c, ds, e1, e2⟩ | ⟨r, e1, e2⟩
  · exact ⟨H0, Z0, env, Z, _, e1, s, fun r q => (nomatch q), fun c' ds' q cls d Z' H' e x => by cases q; exact p.ex _ _ e2 cls d Z' H' e x⟩
  · refine ⟨H0, Z0, env, Z, _, e1, s, fun r' q v Z1 H1 x1 rr => ?_, fun c' ds' q => (nomatch q)⟩
    cases q
    rcases bnd_cases e2 with ⟨c, ds, q1, q2⟩ | ⟨d, q1, q2⟩
    · cases r <;> cases q1
    · obtain ⟨Z2, x2, _, rd⟩ := rr.freeze q1 x1
      rcases bnd_cases q2 with ⟨c, ds, q3, q4⟩ | ⟨ds, q3, q4⟩
      · exact ⟨H0, Z0, env, Z2, _, q3, s.step x2, fun r q => (nomatch q), fun c' ds' q cls d Z' H' e x => by cases q; exact p.ex _ _ q4 cls d Z' H' (x2.trans e) x⟩
      · refine ⟨H0, Z0, env, Z2, _, q3, s.step x2, fun ds' q vs Z' H' x3 rs => ?_, fun c' ds' q => (nomatch q)⟩
        cases q
        cases q4
        exact p.ok _ rfl _ Z' H' (x2.trans x3) (.cons (rd.mono x3.zz) rs)
theorem tNil_of {K : PySem.W.Frag} {σ : St} {H : Hp} {Q : List V → Hp → Prop} (h : tDA K T W aNil σ H Q) : tNil σ H Q := by
  obtain ⟨H0, Z0, env, Z, out, h, s, p⟩ := h
  cases h
  exact p.ok _ rfl [] Z H (Ext4.refl s.zh) .nil
theorem pda_nil : PDA X T W [] aNil := PA.imp pa_nil fun _ _ _ h => tNil_of h
theorem pda_cons (h : PD X T W e f) (t : PDA X T W es fs) (hs : starEach (e :: es) X.env = (false, eval e X.env) :: starEach es X.env := by rfl) : PDA X T W (e :: es) (aCons f fs) := PA.imp (pa_cons h t hs) fun _ _ _ h => tCons_of h
end
def CallV (X : Cx) (T : Tab) (W : WX) (f : Value) (n : Nat) (ks : List Str) (fn : List Dt → List Dt → M Rs) : Prop :=
  ∀ (pins : List (Addr × Obj)) (s : Shared) (σ : St) (H Z : Hp) (us ws : List Value) (vs zs : List V) (ds es : List Dt) (out : Ex Rs) (Q : VK), Inv X pins σ H s → Le Z H → Vals vs us → Vals zs ws → Reps X.K T Z ds vs → Reps X.K T Z es zs →
    ds.length = n → es.length = ks.length → fn ds es = some out → Post X.K T Z H σ W Q out → wpAny (model X.prog X.w) X.A (call f us (ks.zip ws)) (EP X pins σ Q) X.xe s
structure Conv (K : PySem.W.Frag) (T : Tab) (fd : FuncData) (ps : List Str) (n : Nat) (ks : List Str) (gD : List Dt → List Dt → List Dt) : Prop where
  ex : ∃ g gV, KBn K fd ps n ks g gV ∧ ∀ (Z : Hp) ds vs es zs, ds.length = n → es.length = ks.length → Reps K T Z ds vs → Reps K T Z es zs → Reps K T Z (gD ds es) (gV vs zs)
section
variable {X : Cx} {T : Tab} {W : WX} {k n : Nat} {f : Addr} {fd : FuncData} {ps ks : List Str} {fn : Fn} {gD : List Dt → List Dt → List Dt}
theorem callV_fn (F : FnOk X.prog X.w X.K X.mg X.base (L2.CX X.prog X.w) k f fd ps (spD X.K T fn)) (hr : Room k X.A) (hb : Conv X.K T fd ps n ks gD) (tk : Takes X W) : CallV X T W (.ref f) n ks fun ds es => fn (gD ds es) := by
  intro pins s σ H Z us ws vs zs ds es out Q I zh ru rw' rd re l1 l2 hf p
  obtain ⟨g, gV, B, G⟩ := hb.ex
  have r2 := G Z ds vs es zs l1 l2 rd re
  have hsp : spD X.K T fn (gV vs zs) H Q (WE W σ) := ⟨Z, gD ds es, out, zh, r2, hf, p.ok, fun c es' e cls d Z' H' x xr => p.ex c es' e cls d Z' H' x xr⟩
  have v2 := B.rel ru rw'
  have e1 : us.length = n := by rw [← ru.length, rd.length]; exact l1
  have e2 : ws.length = ks.length := by rw [← rw'.length, re.length]; exact l2
  refine wpAny_call (codeAny_mono (F.run X.A X.stack s H ⟨us, ks.zip ws⟩ (g us ws) (gV vs zs) Q (WE W σ) hr I.env0 (B.to s us ws I.kIn e1 e2) v2 hsp) fun r s' hq => ?_)
  cases r with
  | error e => exact passAt tk σ pins H s e s' I hq
  | ok fl =>
    cases fl with
    | ret u => exact I.after hq
    | next => exact False.elim hq
    | brk => exact False.elim hq
    | cont => exact False.elim hq
end
structure ClsD (K : PySem.W.Frag) (T : Tab) (c : Nat) : Prop where
  cls : Cls K (T.ca c)
  no : ∀ f ∈ T.fl c, NoAttr K (T.ca c) f
  nd : (T.fl c).Nodup
  sz : (T.fl c).length < 1000
abbrev FI := List Dt → M (List Dt)
def mkD (c : Nat) (f : FI) : Fn := fun ds => bnd (f ds) fun fs => some (.ok (.fro (.ins c fs)))
def spI (K : PySem.W.Frag) (T : Tab) (c : Nat) (f : FI) : Sp := fun vs H Q E => ∃ x dx as ds Z H00 out, vs = .ref x :: as ∧ H = upd (upd H00 dx (.own x)) x (.ins (T.ca c) dx []) ∧ H00 x = none ∧ H00 dx = none ∧ dx ≠ x ∧ Le Z H00 ∧ Reps K T Z ds as ∧ f ds = some out ∧
  (∀ fs, out = .ok fs → ∀ Z' H', Ext4 Z H00 Z' H' → Rep K T Z' (.ins c fs) (.ref x) → Q .non H') ∧
  (∀ c es, out = .ex c es → ∀ cls d Z' H', Ext4 Z H00 Z' H' → XRep K T Z' H' cls d c es → E cls d H')
theorem putF_zip {f : Str} {y : V} : ∀ {ns : List Str} {vs : List V}, ns.Nodup → ns[vs.length]? = some f → putF f y (ns.zip vs) = ns.zip (vs ++ [y])
  | [], vs, _, h => by simp at h
  | n :: ns, [], nd, h => by
    simp only [List.length_nil, List.getElem?_cons_zero, Option.some.injEq] at h
    subst h
    simp [putF]
  | n :: ns, v :: vs, nd, h => by
    have h' : ns[vs.length]? = some f := by simpa using h
    have ne : n ≠ f := fun e => (List.nodup_cons.mp nd).1 (e ▸ List.mem_of_getElem? h')
    rw [List.zip_cons_cons]
    show (if n = f then _ else (n, v) :: putF f y (ns.zip vs)) = _
    rw [if_neg ne, putF_zip (List.nodup_cons.mp nd).2 h', List.cons_append, List.zip_cons_cons]
theorem lookup_zip {f : Str} {v : V} : ∀ {ns : List Str} {vs : List V} {j : Nat}, ns.Nodup → ns[j]? = some f → vs[j]? = some v → (ns.zip vs).lookup f = some v
  | [], _, _, _, h, _ => by simp at h
  | _ :: _, [], _, _, _, h => by simp at h
  | n :: ns, w :: vs, 0, _, h1, h2 => by
    simp only [List.getElem?_cons_zero, Option.some.injEq] at h1 h2
    subst h1 h2
    simp [List.lookup]
  | n :: ns, w :: vs, j + 1, nd, h1, h2 => by
    have h1' : ns[j]? = some f := by simpa using h1
    have ne : f ≠ n := fun e => (List.nodup_cons.mp nd).1 (e ▸ List.mem_of_getElem? h1')
    rw [List.zip_cons_cons]
    have hb : (f == n) = false := beq_eq_false_iff_ne.mpr ne
    simp only [List.lookup, hb]
    exact lookup_zip (List.nodup_cons.mp nd).2 h1' (by simpa using h2)
theorem lookup_no {f : Str} : ∀ {ns : List Str} {vs : List V}, f ∉ ns → (ns.zip vs).lookup f = none
  | [], _, _ => rfl
  | _ :: _, [], _ => rfl
  | n :: ns, w :: vs, h => by
    have ne : f ≠ n := fun e => h (by simp [e])
    have hb : (f == n) = false := beq_eq_false_iff_ne.mpr ne
    rw [List.zip_cons_cons]
    simp only [List.lookup, hb]
    exact lookup_no fun z => h (List.mem_cons_of_mem _ z)
section
variable {X : Cx} {T : Tab} {W : WX} {k n c : Nat} {f : Addr} {fd : FuncData} {ps ks : List Str} {fi : FI} {gD : List Dt → List Dt → List Dt}
structure ConvI (K : PySem.W.Frag) (T : Tab) (fd : FuncData) (ps : List Str) (n : Nat) (ks : List Str) (gD : List Dt → List Dt → List Dt) : Prop where
  ex : ∃ g gV, KBn K fd ps (n + 1) ks g gV ∧ ∀ (Z : Hp) x ds vs es zs, ds.length = n → es.length = ks.length → Reps K T Z ds vs → Reps K T Z es zs → ∃ as, gV (.ref x :: vs) zs = .ref x :: as ∧ Reps K T Z (gD ds es) as
theorem callV_make (M : Mk X.K (T.ca c) f) (F : FnOk X.prog X.w X.K X.mg X.base (L2.CX X.prog X.w) k f fd ps (spI X.K T c fi)) (hr : Room (k + 1) X.A) (hb : ConvI X.K T fd ps n ks gD) (tk : Takes X W) :
    CallV X T W (.ref (T.ca c)) n ks fun ds es => mkD c fi (gD ds es) := by
  intro pins s σ H Z us ws vs zs ds es out Q I zh ru rw' rd re l1 l2 hf p
  obtain ⟨g, gV, B, G⟩ := hb.ex
  have e1 : us.length = n := by rw [← ru.length, rd.length]; exact l1
  have e2 : ws.length = ks.length := by rw [← rw'.length, re.length]; exact l2
  obtain ⟨as, ga, ra⟩ := G Z (s.heap.objs.size + 1) ds vs es zs l1 l2 rd re
  have I2 := Inv.made (C := T.ca c) I
  have r1 : Vals (V.ref (s.heap.objs.size + 1) :: vs) (Value.ref (s.heap.objs.size + 1) :: us) := .cons rfl ru
  have r2 := B.rel r1 rw'
  have f1 : H (s.heap.objs.size + 1) = none := I.hok.fresh (Nat.le_succ _)
  have f2 : H s.heap.objs.size = none := I.hok.fresh (Nat.le_refl _)
  have hsp : spI X.K T c fi (gV (.ref (s.heap.objs.size + 1) :: vs) zs) (upd (upd H s.heap.objs.size (.own (s.heap.objs.size + 1))) (s.heap.objs.size + 1) (.ins (T.ca c) s.heap.objs.size [])) (fun v H' => v = .non ∧ Q (.ref (s.heap.objs.size + 1)) H') (WE W σ) := by
    unfold mkD at hf
    rcases bnd_cases hf with ⟨c', ds', q1, q2⟩ | ⟨fs, q1, q2⟩
    · exact ⟨_, _, as, gD ds es, Z, H, _, ga, rfl, f1, f2, Nat.ne_of_lt (Nat.lt_succ_self _), zh, ra, q1, fun fs q => (nomatch q), fun c2 es2 q cls d Z' H' x xr => by cases q; exact p.ex _ _ q2 cls d Z' H' x xr⟩
    · refine ⟨_, _, as, gD ds es, Z, H, _, ga, rfl, f1, f2, Nat.ne_of_lt (Nat.lt_succ_self _), zh, ra, q1, fun fs' q Z' H' x xr => ?_, fun c2 es2 q => (nomatch q)⟩
      cases q
      cases q2
      exact ⟨rfl, p.ok _ rfl _ Z' H' x xr⟩
  refine wpAny_call (make_map (f := f) I.kIn M.makes M.init (beq_iff_eq.mp M.fn) (codeAny_mono (F.run _ X.stack _ _ ⟨Value.ref (s.heap.objs.size + 1) :: us, ks.zip ws⟩ (g (Value.ref (s.heap.objs.size + 1) :: us) ws) _ _ (WE W σ) (hr.make (T.ca c) us (ks.zip ws))
    (I2.env0.make (T.ca c) us (ks.zip ws)) (B.to _ (Value.ref (s.heap.objs.size + 1) :: us) ws I2.kIn (by rw [List.length_cons, e1]) e2) r2 hsp) fun r s' hq' => ?_))
  cases r with
  | error e => exact passAt tk σ pins _ _ e s' I2 hq'
  | ok fl =>
    cases fl with
    | ret u =>
      obtain ⟨v, H', I3, rv, ev, q3⟩ := I2.after hq'
      subst ev
      exact ⟨rv, ⟨V.ref (s.heap.objs.size + 1), H', I3, rfl, q3⟩⟩
    | next => exact False.elim hq'
    | brk => exact False.elim hq'
    | cont => exact False.elim hq'
end
def eCall (n m : Nat) (fn : List Dt → List Dt → M Rs) (fa fk : FA) : FE := fun ρ => bnd (fa ρ) fun ds => bnd (fk ρ) fun es => if ds.length = n ∧ es.length = m then fn ds es else none
section
variable {X : Cx} {T : Tab} {W : WX} {n : Nat} {f : Addr} {ks : List Str} {fn : List Dt → List Dt → M Rs} {x : Str} {p pos : Pos} {e : Expr} {es : List Expr} {kws : List Keyword} {fa fk : FA}
theorem args_run {pins : List (Addr × Obj)} {s : Shared} {σ : St} {H : Hp} {Q : VK} {C : Value} (hc : CallV X T W C n ks fn) (I : Inv X pins σ H s) (h : tD X.K T W (eCall n ks.length fn fa fk) σ H Q) :
    tDA X.K T W fa σ H fun vs H1 => tDA X.K T W fk σ H1 fun zs H2 => ∀ (s2 : Shared) (us ws : List Value), Inv X pins σ H2 s2 → Vals vs us → Vals zs ws → wpAny (model X.prog X.w) X.A (call C us (ks.zip ws)) (EP X pins σ Q) X.xe s2 := by
  obtain ⟨H0, Z0, env, Z, out, h, s0, po⟩ := h
  unfold eCall at h
  rcases bnd_cases h with ⟨c, ds, e1, e2⟩ | ⟨ds, e1, e2⟩
  · exact ⟨H0, Z0, env, Z, _, e1, s0, fun r q => (nomatch q), fun c' ds' q cls d Z' H' e x => by cases q; exact po.ex _ _ e2 cls d Z' H' e x⟩
  · refine ⟨H0, Z0, env, Z, _, e1, s0, fun ds' q vs Z1 H1 x1 rs => ?_, fun c' ds' q => (nomatch q)⟩
    cases q
    rcases bnd_cases e2 with ⟨c, es', e3, e4⟩ | ⟨es', e3, e4⟩
    · exact ⟨H0, Z0, env, Z1, _, e3, s0.step x1, fun r q => (nomatch q), fun c' ds' q cls d Z' H' e x => by cases q; exact po.ex _ _ e4 cls d Z' H' (x1.trans e) x⟩
    · refine ⟨H0, Z0, env, Z1, _, e3, s0.step x1, fun ds' q zs Z2 H2 x2 re s2 us ws I2 ru rw' => ?_, fun c' ds' q => (nomatch q)⟩
      cases q
      split at e4
      · rename_i hl
        exact hc pins s2 σ H2 Z2 us ws vs zs ds es' out Q I2 x2.zh ru rw' (rs.mono x2.zz) re hl.1 hl.2 e4 (po.step (x1.trans x2))
      · cases e4
theorem pd_callV {u : Addr} (hc : CallV X T W (.ref u) n [] fn) (hk : PySem.W.keepIn X.K (.ref u) = true) (hg : Gl X x) (hm : X.mg x = some (.ref u)) (ha : PDA X T W (e :: es) fa)
    (hdb : (x == ("__debug__" : Str)) = false := by decide) (he : starEach (e :: es) X.env = (false, eval e X.env) :: starEach es X.env := by rfl) (hpl : (backTo pos (starEach es X.env)).any (·.1) = false := by rfl) :
    PD X T W (.Call (.Name x p) (e :: es) [] pos) (eCall n 0 fn fa aNil) := by
  refine ⟨fun pins s σ H Q I h => ?_⟩
  refine wpAny_Call_Name_kw (ld_glob I hg hm ?_ hdb)
  refine PySem.W.callWith_K (h₀ := X.base) I.ok.mod.kin hk (thn (ha.run pos pins s σ H _ I (args_run hc I h)) fun us s1 ⟨vs, H1, I1, r, q⟩ => ⟨I1.kIn, ?_⟩) he hpl
  exact tNil_of q s1 us [] I1 r .nil
end
def gFld (m : Nat → Option Nat) : G1 := fun r => match r with
  | .fro (.ins c ds) => match m c with
    | some j => match ds[j]? with
      | some d => some (.ok (.fro d))
      | none => none
    | none => none
  | _ => none
section
variable {X : Cx} {T : Tab} {W : WX} {e o : Expr} {fa fb : FE} {f : Str} {pos pos' : Pos}
theorem pd_fld (m : Nat → Option Nat) (hm : ∀ c j, m c = some j → ClsD X.K T c ∧ (T.fl c)[j]? = some f) (he : PD X T W e fa) (hb : attributeBase e f X.env (eval e X.env) = eval e X.env := by rfl) : PD X T W (.Attribute e f pos) (e1 (gFld m) fa) := by
  refine PE.imp (pe_fld he hb) fun σ H Q ⟨H0, Z0, env, Z, out, h, s, p⟩ => ?_
  refine tD_bnd h s p fun r v Z1 H1 hk e1 rr s1 p1 => ?_
  unfold gFld at hk
  split at hk
  · split at hk
    · rename_i c ds j hj
      split at hk
      · rename_i d hd
        cases hk
        obtain ⟨C, hf⟩ := hm _ _ hj
        simp only [RRep, Rep] at rr
        obtain ⟨q, dx, vs, rfl, h1, h2, h3⟩ := rr
        obtain ⟨w, h4, h5⟩ := h3.get hd
        exact ⟨q, _, dx, _, w, rfl, e1.zh _ _ h1, C.cls, C.no _ (List.mem_of_getElem? hf), lookup_zip C.nd hf h4, p1.fro e1.zh h5⟩
      · cases hk
    · cases hk
  · cases hk
def sFld (i c j : Nat) (f : FE) : FS := fun ρ => bndS ρ (f ρ) fun r => bndS ρ (frz r) fun d => match ρ[i]? with
  | some (some (.mk c' ds)) => if c' = c ∧ ds.length = j then some (.nx (ρ.set i (some (.mk c (ds ++ [d]))))) else none
  | _ => none
theorem pds_fld {i c j : Nat} {x : Str} {xp : Pos} (C : ClsD X.K T c) (hj : (T.fl c)[j]? = some f) (hv : PD X T W e fa) (hN : X.N[i]? = some x := by rfl) (hvis : Vis X.env.scope x := by first | exact Or.inl rfl | exact Or.inr (Or.inl rfl) | exact Or.inr (Or.inr rfl))
    (hd : (x == ("__debug__" : Str)) = false := by decide) (hcd : (x == ("__classdict__" : Str)) = false := by decide) (hs : swapsWith e (some (.Attribute (.Name x xp) f pos')) pos.line X.env = pure false := by rfl) :
    PDS X T W (.Assign [.Attribute (.Name x xp) f pos'] e pos) (sFld i c j fa) := by
  refine PS.imp (ps_fld (pe_var hN hvis hd hcd) hv hs) fun D σ H ⟨H0, Z0, env, Z, out, h, s, p⟩ => ?_
  refine tD_bndSF h s p fun d v Z1 H1 hk e1 rd s1 => ?_
  split at hk
  · rename_i c' ds he
    split at hk
    · rename_i hc
      obtain ⟨rfl, hl⟩ := hc
      cases hk
      obtain ⟨w, h1, q, dx, vs, rfl, b, hq, zq, rs⟩ := s1.cell i _ he
      have lv : vs.length = j := by rw [rs.length]; exact hl
      refine ⟨_, h1, q, _, dx, _, rfl, hq, C.cls, C.no _ (List.mem_of_getElem? hj), Nat.lt_of_le_of_lt (by rw [List.length_zip]; exact Nat.min_le_left _ _) C.sz, ?_⟩
      rw [putF_zip C.nd (by rw [lv]; exact hj)]
      have e2 : Ext4 H0 H0 H0 H0 := Ext4.refl (Le.refl _)
      have oi : isOwnC env[i]? := by rw [he]; exact True.intro
      have hl2 : i < env.length := (List.getElem?_eq_some_iff.mp he).1
      refine p.nx _ rfl _ Z1 _ ⟨⟨fun a o h => ?_, s1.ext.zz, fun a o h => ?_, s1.ext.st⟩, by simp [s1.len], fun m cl hm' => ?_, fun m k u hmk a1 a2 a3 a4 => ?_, fun m c2 ds2 v2 hm' h' => ?_⟩
      rotate_right 1
      · by_cases z : i = m
        · subst z
          exact s1.me i _ _ _ he h'
        · rw [List.getElem?_set_ne z] at hm'; exact s1.me m _ _ _ hm' h'
      · have ne : a ≠ q := fun z => by subst z; rw [b] at h; cases h
        rw [upd_ne ne]; exact s1.ext.hh _ _ h
      · have ne : a ≠ q := fun z => by subst z; rw [zq] at h; cases h
        rw [upd_ne ne]; exact s1.ext.zh _ _ h
      · by_cases z : i = m
        · subst z
          rw [List.getElem?_set_self hl2] at hm'
          cases hm'
          exact ⟨_, h1, q, dx, _, rfl, b, upd_same, zq, rs.append (.cons rd .nil)⟩
        · rw [List.getElem?_set_ne z] at hm'
          obtain ⟨u, g1, g2⟩ := s1.cell m cl hm'
          refine ⟨u, g1, ?_⟩
          cases cl with
          | fro d => exact g2
          | own es =>
            obtain ⟨q2, ws, rfl, b2, hq2, zq2, rs2⟩ := g2
            have ne : q2 ≠ q := fun y => by
              subst y
              exact s1.sep i m _ z oi (by rw [hm']; exact True.intro) h1 g1
            exact ⟨q2, ws, rfl, b2, by rw [upd_ne ne]; exact hq2, zq2, rs2⟩
          | mk c es =>
            obtain ⟨q2, dx2, ws, rfl, b2, hq2, zq2, rs2⟩ := g2
            have ne : q2 ≠ q := fun y => by
              subst y
              exact s1.sep i m _ z oi (by rw [hm']; exact True.intro) h1 g1
            exact ⟨q2, dx2, ws, rfl, b2, by rw [upd_ne ne]; exact hq2, zq2, rs2⟩
      · have nf : ∀ r : Nat, isOwnC ((env.set i (some (.mk c' (ds ++ [d]))))[r]?) → isOwnC env[r]? := fun r hr => by
          by_cases z : i = r
          · subst z; exact oi
          · rw [List.getElem?_set_ne z] at hr; exact hr
        exact s1.sep m k u hmk (nf m a1) (nf k a2) a3 a4
    · cases hk
  · cases hk
end
def outI (c nf : Nat) : Option Out → M (List Dt)
  | some (.nx ρ) => match (ρ[0]? : Option (Option Cel)) with
    | some (some (.mk c' fs)) => if c' = c ∧ fs.length = nf then some (.ok fs) else none
    | _ => none
  | some (.xc c ds _) => some (.ex c ds)
  | _ => none
def fnI (c nf np nl : Nat) (F : FS) : FI := fun args => if args.length = np then outI c nf (F (some (.mk c []) :: (args.map (fun d => some (.fro d)) ++ List.replicate nl none))) else none
section
variable {K : PySem.W.Frag} {T : Tab}
theorem initOk_of {P : Program} {w : World} {mg : Str → Option Value} {base : Heap} {x qual : Str} {params : Arguments} {body : List Stmt} {scope : Scope} {dvs : List V} {kws : List (Str × V)} {f : Addr} {fd : FuncData} {N ps : List Str} {k c nf np nl : Nat} {F : FS}
    (Fd : FunD K x qual params body scope dvs kws f fd) (S : FnScope N ps scope) (hfl : (T.fl c).length = nf) (hp : ps.length = np + 1 := by rfl) (hN : N.length = np + 1 + nl := by rfl)
    (hbody : ∀ (cdv : Value) (A : Around) (outer : List Env) (s : Shared) (H : Hp) (E : XK), Room k (A.deeper (envOfC qual scope s.heap.objs.size f cdv)) →
      Takes (cxOf (L2.CX P w) P w K mg base N qual scope f cdv A outer s H E) (fun cls d _ H => E cls d H) →
      PDSs (cxOf (L2.CX P w) P w K mg base N qual scope f cdv A outer s H E) T (fun cls d _ H => E cls d H) body F) : FnOk P w K mg base (L2.CX P w) (k + 1) f fd ps (spI K T c (fnI c nf np nl F)) := by
  refine Fd.ok S (fun vs H Q E h => ?_) fun cdv A outer s H vs Q E hr h => ⟨_, hbody cdv A outer s H E hr (takes_of rfl rfl rfl rfl), ?_⟩
  · obtain ⟨x, dx, as, ds, Z, H00, out, rfl, _, _, _, _, _, rd, hf, _⟩ := h
    have hl : ds.length = np := by
      unfold fnI at hf
      split at hf
      · assumption
      · cases hf
    rw [List.length_cons, rd.length, hl, hp]
  · obtain ⟨x, dx, as, ds, Z, H00, out, rfl, rfl, nx, ndx, ne, zh, rd, hf, ok, ex⟩ := h
    have hl : ds.length = np := by
      unfold fnI at hf
      split at hf
      · assumption
      · cases hf
    unfold fnI at hf
    rw [if_pos hl] at hf
    have ndx' : (upd H00 dx (.own x)) x = none := by rw [upd_ne (Ne.symm ne)]; exact nx
    have e4 : Ext4 Z H00 Z (upd (upd H00 dx (.own x)) x (.ins (T.ca c) dx [])) := (Ext4.new zh ndx).trans (Ext4.new (zh.trans (Le.upd ndx)) ndx')
    have s : SI K T H00 (Z, x) (some (.mk c []) :: (ds.map (fun d => some (.fro d)) ++ List.replicate nl none)) (start N (.ref x :: as)) Z (upd (upd H00 dx (.own x)) x (.ins (T.ca c) dx [])) := by
      have s0 := SI.start (K := K) (T := T) (Z := Z) (H := H00) (ds := ds) (vs := as) (N := N.tail) (nl := nl) zh rd (by rw [List.length_tail, hN, hl]; omega)
      have hst : start N (.ref x :: as) = some (.ref x) :: start N.tail as := by
        unfold L2.start
        have hl2 := rd.length
        rw [List.map_cons, List.cons_append, List.length_cons, List.length_tail]
        congr 3
        omega
      rw [hst]
      refine ⟨e4, by simp [s0.len], fun i cl hi => ?_, fun i j v hij h1 h2 h3 h4 => ?_, fun i c' ds' v h h' => ?_⟩
      rotate_right 1
      · cases i with
        | zero => simpa using h'.symm
        | succ i =>
          have h1 := h
          simp only [List.getElem?_cons_succ] at h1 h'
          exact absurd (s0.me i _ _ _ h1 h') (by
            obtain ⟨v0, g1, q, dx', vs, e1, b, hq, _⟩ := s0.cell i _ h1
            intro _
            rw [b] at hq; cases hq)
      · cases i with
        | zero =>
          simp only [List.getElem?_cons_zero, Option.some.injEq] at hi
          cases hi
          refine ⟨.ref x, rfl, x, dx, [], rfl, nx, ?_, zh.free nx, .nil⟩
          rw [upd_same]
          simp
        | succ i =>
          obtain ⟨v, g1, g2⟩ := s0.cell i cl (by simpa using hi)
          exact ⟨v, by simpa using g1, CRep.step g2 e4⟩
      · have no : ∀ m : Nat, ¬ isOwnC ((ds.map (fun d => some (Cel.fro d)) ++ List.replicate nl none)[m]?) := fun m hm => by
          by_cases hi : m < ds.length
          · rw [List.getElem?_append_left (by simpa using hi), List.getElem?_map, List.getElem?_eq_getElem hi] at hm
            exact hm
          · rw [List.getElem?_append_right (by simpa using hi), List.getElem?_replicate] at hm
            split at hm <;> exact hm
        cases i with
        | succ i => exact no i (by simpa using h1)
        | zero =>
          cases j with
          | zero => exact hij rfl
          | succ j => exact no j (by simpa using h2)
    generalize hF : F (some (.mk c []) :: (ds.map (fun d => some (.fro d)) ++ List.replicate nl none)) = fo at hf
    revert hf
    rcases fo with _ | (ρ | r | ρ | ρ | ⟨c2, es2, ρ⟩)
    · intro hf; cases hf
    · intro hf
      refine ⟨H00, (Z, x), _, Z, _, hF, s, fun env' q σ' Z' H' s' => ?_, fun _ q => (nomatch q), fun _ q => (nomatch q), fun _ q => (nomatch q), fun _ _ _ q => (nomatch q)⟩
      cases q
      unfold outI at hf
      dsimp only at hf
      split at hf
      · rename_i c' fs h0
        split at hf
        · rename_i hc
          obtain ⟨rfl, hn⟩ := hc
          cases hf
          obtain ⟨v, g1, q, dx', vs, rfl, b, hq, zq, rs⟩ := s'.cell 0 _ h0
          have e5 := s'.ext.freeze b zq hq
          have ex' := s'.me 0 _ _ _ h0 g1
          cases ex'
          refine ok _ rfl _ H' e5 ?_
          simp only [Rep]
          refine ⟨_, dx', vs, rfl, upd_same, ?_, rs.mono (Le.upd zq)⟩
          rw [rs.length, hn, hfl]
        · cases hf
      · cases hf
    · intro hf; cases hf
    · intro hf; cases hf
    · intro hf; cases hf
    · intro hf
      cases hf
      exact ⟨H00, (Z, x), _, Z, _, hF, s, fun _ q => (nomatch q), fun _ q => (nomatch q), fun _ q => (nomatch q), fun _ q => (nomatch q), fun c' ds' env' q cls d σ' Z' H' s' x => by cases q; exact ex _ _ rfl cls d Z' H' s'.ext x⟩
end
end Pd
set_option maxHeartbeats 2000000
namespace Pd
open PySem PySem.Spec L2
open PyProof.Rows (envOfC)
def LINE : Nat := 16777216
theorem LINE_eq : LINE = sizeLine := by decide
theorem line_of {n : Nat} (h : n ≤ LINE) : n ≤ sizeLine := by rw [← LINE_eq]; exact h
def asL : Rs → Option (List Dt)
  | .fro (.lst ds) => some ds
  | .own ds => some ds
  | .bor ds => some ds
  | _ => none
def asO : Rs → Option (List Dt)
  | .own ds => some ds
  | .bor ds => some ds
  | _ => none
@[simp] theorem asL_fro (ds : List Dt) : asL (.fro (.lst ds)) = some ds := rfl
@[simp] theorem asL_own (ds : List Dt) : asL (.own ds) = some ds := rfl
@[simp] theorem asL_bor (ds : List Dt) : asL (.bor ds) = some ds := rfl
@[simp] theorem asO_own (ds : List Dt) : asO (.own ds) = some ds := rfl
@[simp] theorem asO_bor (ds : List Dt) : asO (.bor ds) = some ds := rfl
section
variable {K : PySem.W.Frag} {T : Tab} {B Z H : Hp} {v : V} {r : Rs} {ds : List Dt}
theorem RRep.list (h : RRep K T B Z H v r) (zh : Le Z H) (e : asL r = some ds) : ∃ p vs, v = .ref p ∧ SqL K H p vs ∧ Reps K T Z ds vs := by
  unfold asL at e
  split at e <;> cases e
  · simp only [RRep, Rep] at h
    obtain ⟨p, vs, rfl, h1, h2⟩ := h
    exact ⟨p, vs, rfl, zh.seqL h1, h2⟩
  · obtain ⟨p, vs, rfl, _, h1, _, h2⟩ := h
    exact ⟨p, vs, rfl, .of h1, h2⟩
  · obtain ⟨p, vs, rfl, h1, h2⟩ := h
    exact ⟨p, vs, rfl, .of h1, h2⟩
theorem RRep.lst (h : RRep K T B Z H v r) (e : asO r = some ds) : ∃ p vs, v = .ref p ∧ H p = some (.lst vs) ∧ Reps K T Z ds vs := by
  unfold asO at e
  split at e <;> cases e
  · obtain ⟨p, vs, rfl, _, h1, _, h2⟩ := h
    exact ⟨p, vs, rfl, h1, h2⟩
  · obtain ⟨p, vs, rfl, h1, h2⟩ := h
    exact ⟨p, vs, rfl, h1, h2⟩
theorem Reps.at {vs : List V} {i : Int} {d : Dt} (h : Reps K T Z ds vs) (e : atI ds i = some d) : ∃ w, atI vs i = some w ∧ Rep K T Z d w := by
  unfold atI at e ⊢
  rw [h.length]
  cases q : ixN ds.length i with
  | none => rw [q] at e; cases e
  | some j =>
    rw [q] at e
    exact h.get e
theorem Reps.cut {vs : List V} {lo hi : Option Int} (h : Reps K T Z ds vs) : Reps K T Z ((ds.drop (HT.sIx ds.length 0 lo)).take (HT.sIx ds.length ds.length hi - HT.sIx ds.length 0 lo)) (cutV vs lo hi) := by
  unfold cutV
  rw [h.length]
  exact (h.drop _).take _
end
def cutD (ds : List Dt) (lo hi : Option Int) : List Dt := (ds.drop (HT.sIx ds.length 0 lo)).take (HT.sIx ds.length ds.length hi - HT.sIx ds.length 0 lo)
def gIx : G2 := fun x y => match y with
  | .fro (.int i) => match x with
    | .fro (.tup ds) => match atI ds i with
      | some d => some (.ok (.fro d))
      | none => none
    | .fro (.str z) => if z.length ≤ LINE then match atI z.cps.toList i with
      | some c => some (.ok (.fro (.str ⟨#[c]⟩)))
      | none => none else none
    | x => match asL x with
      | some ds => match atI ds i with
        | some d => some (.ok (.fro d))
        | none => none
      | none => none
  | _ => none
section
variable {K : PySem.W.Frag} {T : Tab} {W : WX}
theorem o2_ix : Op2 K T W (rIx K) gIx := fun σ B Z H x y v w out Q zh r1 r2 hg p => by
  unfold gIx at hg
  split at hg
  · simp only [RRep, Rep] at r2
    subst r2
    split at hg
    · split at hg
      · rename_i d hd
        cases hg
        simp only [RRep, Rep] at r1
        obtain ⟨q, vs, rfl, h1, h2⟩ := r1
        obtain ⟨u, h3, h4⟩ := h2.at hd
        exact .inr (.inl ⟨q, vs, _, u, rfl, rfl, zh.seqT h1, h3, p.fro zh h4⟩)
      · cases hg
    · split at hg
      · rename_i hz
        split at hg
        · rename_i c hc
          cases hg
          simp only [RRep, Rep] at r1
          subst r1
          exact .inr (.inr ⟨_, _, c, rfl, rfl, line_of hz, hc, p.fro zh (by simp only [Rep])⟩)
        · cases hg
      · cases hg
    · split at hg
      · rename_i ds hds
        split at hg
        · rename_i d hd
          cases hg
          obtain ⟨q, vs, rfl, h1, h2⟩ := r1.list zh hds
          obtain ⟨u, h3, h4⟩ := h2.at hd
          exact .inl ⟨q, vs, _, u, rfl, rfl, h1, h3, p.fro zh h4⟩
        · cases hg
      · cases hg
  · cases hg
variable {X : Cx} {a b e : Expr} {fa fb f : FE} {es : List Expr} {fs : FA} {pos : Pos} {x1 : _}
theorem pd_item (ha : PD X T W a fa) (hb : PD X T W b fb) (hs : PlainIx b := by exact fun _ _ => rfl) : PD X T W (.Subscript a b pos) (e2 gIx fa fb) := pd_ix ix_seq o2_ix ha hb hs
end
def eTup (fs : FA) : FE := fun ρ => bnd (fs ρ) fun ds => if ds.length ≤ LINE then some (.ok (.fro (.tup ds))) else none
def eLst (fs : FA) : FE := fun ρ => bnd (fs ρ) fun ds => if ds.length ≤ LINE then some (.ok (.own ds)) else none
section
variable {K : PySem.W.Frag} {T : Tab} {W : WX} {H0 Z H : Hp} {Z0 : Hx} {env : PEnv} {σ : St} {Q : VK} {out : Ex Rs}
theorem tDA_bnd {fa : FA} {k : List Dt → M Rs} {G : List V → Hp → Prop} (h : bnd (fa env) k = some out) (s : SI K T H0 Z0 env σ Z H) (p : Post K T Z H σ W Q out)
    (go : ∀ ds vs Z1 H1, k ds = some out → Ext4 Z H Z1 H1 → Reps K T Z1 ds vs → SI K T H0 Z0 env σ Z1 H1 → Post K T Z1 H1 σ W Q out → G vs H1) : tDA K T W fa σ H G := by
  rcases bnd_cases h with ⟨c, ds, e1, e2⟩ | ⟨r, e1, e2⟩
  · exact ⟨H0, Z0, env, Z, _, e1, s, fun r q => (nomatch q), fun c' ds' q cls d Z' H' e x => by cases q; exact p.ex _ _ e2 cls d Z' H' e x⟩
  · refine ⟨H0, Z0, env, Z, _, e1, s, fun r' q v Z' H' e rr => ?_, fun c' ds' q => (nomatch q)⟩
    cases q
    exact go r v Z' H' e2 e rr (s.step e) (p.step e)
variable {X : Cx} {a b e : Expr} {fa fb f : FE} {es : List Expr} {fs : FA} {pos : Pos}
theorem pd_tup {k : Nat} (h : PDA X T W es fs) : PD X T W (.Tuple es k pos) (eTup fs) := by
  refine PE.imp (pe_tup h) fun σ H Q ⟨H0, Z0, env, Z, out, h, s, p⟩ => ?_
  refine tDA_bnd h s p fun ds vs Z1 H1 hk e1 rs s1 p1 => ?_
  split at hk
  · rename_i hl
    cases hk
    exact ⟨by rw [rs.length]; exact line_of hl, fun q hq => p1.tup e1.zh hq rs⟩
  · cases hk
theorem pd_lst (h : PDA X T W es fs) : PD X T W (.List es pos) (eLst fs) := by
  refine PE.imp (pe_lst h) fun σ H Q ⟨H0, Z0, env, Z, out, h, s, p⟩ => ?_
  refine tDA_bnd h s p fun ds vs Z1 H1 hk e1 rs s1 p1 => ?_
  split at hk
  · rename_i hl
    cases hk
    exact ⟨by rw [rs.length]; exact line_of hl, fun q hq => p1.own e1.zh hq rs⟩
  · cases hk
end
abbrev FO := PEnv → M (Option Int)
structure PostO (K : PySem.W.Frag) (T : Tab) (Z H : Hp) (σ : St) (W : WX) (Q : Option Int → Hp → Prop) (out : Ex (Option Int)) : Prop where
  ok : ∀ r, out = .ok r → ∀ Z' H', Ext4 Z H Z' H' → Q r H'
  ex : ∀ c ds, out = .ex c ds → ∀ cls d Z' H', Ext4 Z H Z' H' → XRep K T Z' H' cls d c ds → W cls d σ H'
def tDO (K : PySem.W.Frag) (T : Tab) (W : WX) (f : FO) : TO := fun σ H Q => ∃ H0 Z0 env Z out, f env = some out ∧ SI K T H0 Z0 env σ Z H ∧ PostO K T Z H σ W Q out
abbrev PDO (X : Cx) (T : Tab) (W : WX) (e : Option Expr) (f : FO) : Prop := PO X e (tDO X.K T W f)
def oNone : FO := fun _ => some (.ok none)
def asI : Rs → M Int
  | .fro (.int i) => some (.ok i)
  | _ => none
@[simp] theorem asI_int (i : Int) : asI (.fro (.int i)) = some (.ok i) := rfl
def oSome (f : FE) : FO := fun ρ => bnd (f ρ) fun r => bnd (asI r) fun i => some (.ok (some i))
def gSl : Rs → Option Int → Option Int → M Rs := fun x lo hi => match x with
  | .fro (.tup ds) => if ¬ (HT.sIx ds.length 0 lo = 0 ∧ HT.sIx ds.length ds.length hi = ds.length) then some (.ok (.fro (.tup (cutD ds lo hi)))) else none
  | x => match asL x with
    | some ds => some (.ok (.own (cutD ds lo hi)))
    | none => none
def eSl (f : FE) (lo hi : FO) : FE := fun ρ => bnd (f ρ) fun x => bnd (lo ρ) fun l => bnd (hi ρ) fun h => gSl x l h
section
variable {X : Cx} {T : Tab} {W : WX} {e : Expr} {f : FE} {lo hi : Option Expr} {fl fh : FO} {pos p2 : Pos}
theorem pdo_none : PDO X T W none oNone := ⟨fun pins s σ H Q I ⟨H0, Z0, env, Z, out, h, s0, p⟩ => by
  cases h
  exact po_none.run pins s σ H Q I (p.ok _ rfl Z H (Ext4.refl s0.zh))⟩
theorem pdo_some (he : PD X T W e f) : PDO X T W (some e) (oSome f) := ⟨fun pins s σ H Q I ⟨H0, Z0, env, Z, out, h, s0, p⟩ => by
  refine (po_some he).run pins s σ H Q I ?_
  show tD X.K T W f σ H _
  unfold oSome at h
  rcases bnd_cases h with ⟨c, ds, e1, e2⟩ | ⟨r, e1, e2⟩
  · exact ⟨H0, Z0, env, Z, _, e1, s0, fun r q => (nomatch q), fun c' ds' q cls d Z' H' e x => by cases q; exact p.ex _ _ e2 cls d Z' H' e x⟩
  · refine ⟨H0, Z0, env, Z, _, e1, s0, fun r' q v Z' H' x rr => ?_, fun c' ds' q => (nomatch q)⟩
    cases q
    unfold asI at e2
    split at e2
    · cases e2
      simp only [RRep, Rep] at rr
      exact ⟨_, rr, p.ok _ rfl Z' H' x⟩
    · cases e2⟩
theorem tDO_bnd {K : PySem.W.Frag} {H0 Z H : Hp} {Z0 : Hx} {env : PEnv} {σ : St} {Q : VK} {out : Ex Rs} {fa : FO} {k : Option Int → M Rs} {G : Option Int → Hp → Prop} (h : bnd (fa env) k = some out) (s : SI K T H0 Z0 env σ Z H) (p : Post K T Z H σ W Q out)
    (go : ∀ o Z1 H1, k o = some out → Ext4 Z H Z1 H1 → SI K T H0 Z0 env σ Z1 H1 → Post K T Z1 H1 σ W Q out → G o H1) : tDO K T W fa σ H G := by
  rcases bnd_cases h with ⟨c, ds, e1, e2⟩ | ⟨r, e1, e2⟩
  · exact ⟨H0, Z0, env, Z, _, e1, s, fun r q => (nomatch q), fun c' ds' q cls d Z' H' e x => by cases q; exact p.ex _ _ e2 cls d Z' H' e x⟩
  · refine ⟨H0, Z0, env, Z, _, e1, s, fun r' q Z' H' e => ?_, fun c' ds' q => (nomatch q)⟩
    cases q
    exact go r Z' H' e2 e (s.step e) (p.step e)
theorem pd_slice (he : PD X T W e f) (hl : PDO X T W lo fl) (hh : PDO X T W hi fh) : PD X T W (.Subscript e (.Slice lo hi none p2) pos) (eSl f fl fh) := by
  refine PE.imp (pe_slice (SlR.or sl_list sl_tup) he hl hh) fun σ H Q ⟨H0, Z0, env, Z, out, h, s, p⟩ => ?_
  refine tD_bnd h s p fun x v Z1 H1 hk e1 rr s1 p1 => ?_
  refine tDO_bnd hk s1 p1 fun l Z2 H2 hk2 e2 s2 p2 => ?_
  refine tDO_bnd hk2 s2 p2 fun u Z3 H3 hk3 e3 s3 p3 => ?_
  have rr3 := (rr.step e2).step e3
  have zh := e3.zh
  unfold gSl at hk3
  split at hk3
  · split at hk3
    · rename_i ds hl
      cases hk3
      simp only [RRep, Rep] at rr3
      obtain ⟨q, vs, rfl, h1, h2⟩ := rr3
      exact .inr ⟨q, vs, rfl, zh.seqT h1, by rw [h2.length]; exact hl, fun p' hp' => p3.tup zh hp' h2.cut⟩
    · cases hk3
  · split at hk3
    · rename_i ds hds
      cases hk3
      obtain ⟨q, vs, rfl, h1, h2⟩ := rr3.list zh hds
      exact .inl ⟨q, vs, rfl, h1, fun p' hp' => p3.own zh hp' h2.cut⟩
    · cases hk3
end
def gCat : G2 := fun x y => match asL x, asL y with
  | some a, some b => if a.length + b.length ≤ LINE then some (.ok (.own (a ++ b))) else none
  | _, _ => none
def gRep : G2 := fun x y => match asO x, y with
  | some a, .fro (.int k) => if k < 2 ^ 62 ∧ -(2 ^ 62) ≤ k ∧ a.length * k.toNat ≤ LINE then some (.ok (.own (List.replicate k.toNat a).flatten)) else none
  | _, _ => none
section
variable {K : PySem.W.Frag} {T : Tab} {W : WX}
def rCatL (K : PySem.W.Frag) : R2 := fun x y H Q => ∃ l b xs zs, x = .ref l ∧ y = .ref b ∧ SqL K H l xs ∧ SqL K H b zs ∧ xs.length + zs.length ≤ sizeLine ∧ ∀ p, H p = none → Q (.ref p) (upd H p (.lst (xs ++ zs)))
theorem op_catL {X : Cx} : OpR X (binaryOp .Add) (rCatL X.K) := by
  intro pins s σ H x y v u Q I rx ry h
  obtain ⟨l, b, xs, zs, rfl, rfl, hH, hB, hz, q⟩ := h
  cases rx
  cases ry
  obtain ⟨its, r, p1, z1⟩ := I.list hH
  obtain ⟨its2, r2, p2, z2⟩ := I.list hB
  obtain ⟨⟨cls, dd, data, sl⟩, ho, hc, n, hd⟩ := id p1.isList
  obtain ⟨⟨cls2, dd2, data2, sl2⟩, ho2, hc2, n2, hd2⟩ := id p2.isList
  simp only at hc hd hc2 hd2
  subst hc hd hc2 hd2
  have l1 := r.length
  have l2 := r2.length
  refine PySem.concat_meets ⟨_, ho, rfl⟩ ⟨_, ho2, rfl⟩ PySem.noFill_list_add PySem.seq_list_add PySem.F.slot_list_add PySem.F.entry_list_add (PySem.F.args_list_add_2 _ _) (PyProof.Rows.list_addW l b its.toArray its2.toArray n n2 dd dd2 sl sl2 (by rw [List.size_toArray, List.size_toArray]; omega)) ⟨ho, ho2, ?_⟩
  have ea : its.toArray ++ its2.toArray = (its ++ its2).toArray := by simp
  rw [ea]
  exact ⟨.ref _, _, I.lnew (t' := s.toks) (r.append r2) (by rw [List.length_append]; omega), rfl, q _ I.fresh⟩
theorem o2_cat : Op2 K T W (rCatL K) gCat := fun σ B Z H x y v w out Q zh r1 r2 hg p => by
  unfold gCat at hg
  split at hg
  · rename_i a b ha hb
    split at hg
    · rename_i hl
      cases hg
      obtain ⟨q1, vs, rfl, h1, s1⟩ := r1.list zh ha
      obtain ⟨q2, ws, rfl, h2, s2⟩ := r2.list zh hb
      exact ⟨q1, q2, vs, ws, rfl, rfl, h1, h2, by rw [s1.length, s2.length]; exact line_of hl, fun q hq => p.own zh hq (s1.append s2)⟩
    · cases hg
  · cases hg
theorem o2_rep : Op2 K T W rRep gRep := fun σ B Z H x y v w out Q zh r1 r2 hg p => by
  unfold gRep at hg
  split at hg
  · rename_i a k ha
    split at hg
    · rename_i hl
      cases hg
      obtain ⟨q1, vs, rfl, h1, s1⟩ := r1.lst ha
      simp only [RRep, Rep] at r2
      exact ⟨q1, k, vs, rfl, r2, h1, by omega, by omega, by rw [s1.length]; exact line_of hl.2.2, fun q hq => p.own zh hq (s1.rep _)⟩
    · cases hg
  · cases hg
end
end Pd
set_option maxHeartbeats 2000000
namespace Pd
open PySem PySem.Spec L2
open PyProof.Rows (envOfC)
def OpC1 (K : PySem.W.Frag) (T : Tab) (W : WX) (r : List V → Hp → VK → Prop) (g : G1) : Prop := ∀ (σ : St) (B Z H : Hp) (x : Rs) (v : V) (out : Ex Rs) (Q : VK), Le Z H → RRep K T B Z H v x → g x = some out → Post K T Z H σ W Q out → r [v] H Q
def OpC2 (K : PySem.W.Frag) (T : Tab) (W : WX) (r : List V → Hp → VK → Prop) (g : G2) : Prop := ∀ (σ : St) (B Z H : Hp) (x y : Rs) (v w : V) (out : Ex Rs) (Q : VK), Le Z H → RRep K T B Z H v x → RRep K T B Z H w y → g x y = some out → Post K T Z H σ W Q out → r [v, w] H Q
section
variable {X : Cx} {T : Tab} {W : WX} {x : Str} {p pos : Pos} {a b : Expr} {fa fb : FE} {id : String} {r : List V → Hp → VK → Prop} {g : G1} {g2 : G2}
theorem tC1_of {K : PySem.W.Frag} (h : OpC1 K T W r g) {σ : St} {H : Hp} {Q : VK} (q : tD K T W (e1 g fa) σ H Q) : tCB r (tCons (tD K T W fa) tNil) σ H Q := by
  obtain ⟨H0, Z0, env, Z, out, hf, s, p⟩ := q
  refine tD_bnd hf s p fun x v Z1 H1 hk e1 r1 s1 p1 => ?_
  exact h σ H Z1 H1 x v out Q e1.zh r1 hk p1
theorem tC2_of {K : PySem.W.Frag} (h : OpC2 K T W r g2) {σ : St} {H : Hp} {Q : VK} (q : tD K T W (e2 g2 fa fb) σ H Q) : tCB r (tCons (tD K T W fa) (tCons (tD K T W fb) tNil)) σ H Q := by
  obtain ⟨H0, Z0, env, Z, out, hf, s, p⟩ := q
  refine tD_bnd hf s p fun x v Z1 H1 hk e1 r1 s1 p1 => ?_
  refine tD_bnd hk s1 p1 fun y w Z2 H2 hk2 e2 r2 s2 p2 => ?_
  exact h σ H Z2 H2 x y v w out Q e2.zh (r1.step e2) (r2.base e1.hh) hk2 p2
theorem pd_bi1 (hc : CallR X (.builtin id) r) (h : OpC1 X.K T W r g) (hg : Gl X x) (hm : X.mg x = none) (hv : bootBuiltins x = some (.builtin id)) (ha : PD X T W a fa) (hn : x ≠ "__name__" := by decide) (hdb : (x == ("__debug__" : Str)) = false := by decide)
    (hs : starEach (a :: []) X.env = (false, eval a X.env) :: starEach [] X.env := by rfl) (hpl : (backTo pos (starEach [] X.env)).any (·.1) = false := by rfl) : PD X T W (.Call (.Name x p) [a] [] pos) (e1 g fa) :=
  PE.imp (pe_callB hc hg hm hv (pa_cons ha pa_nil hs) hn hdb hs hpl) fun _ _ _ q => tC1_of h q
theorem pd_ty1 {T' : String} (hc : CallR X (.type T') r) (h : OpC1 X.K T W r g) (hg : Gl X x) (hm : X.mg x = none) (hv : bootBuiltins x = some (.type T')) (ha : PD X T W a fa) (hn : x ≠ "__name__" := by decide) (hdb : (x == ("__debug__" : Str)) = false := by decide)
    (hs : starEach (a :: []) X.env = (false, eval a X.env) :: starEach [] X.env := by rfl) (hpl : (backTo pos (starEach [] X.env)).any (·.1) = false := by rfl) : PD X T W (.Call (.Name x p) [a] [] pos) (e1 g fa) :=
  PE.imp (pe_callTy hc hg hm hv (pa_cons ha pa_nil hs) hn hdb hs hpl) fun _ _ _ q => tC1_of h q
theorem pd_bi2 (hc : CallR X (.builtin id) r) (h : OpC2 X.K T W r g2) (hg : Gl X x) (hm : X.mg x = none) (hv : bootBuiltins x = some (.builtin id)) (ha : PD X T W a fa) (hb : PD X T W b fb) (hn : x ≠ "__name__" := by decide) (hdb : (x == ("__debug__" : Str)) = false := by decide)
    (hs : starEach (a :: [b]) X.env = (false, eval a X.env) :: starEach [b] X.env := by rfl) (hs2 : starEach (b :: []) X.env = (false, eval b X.env) :: starEach [] X.env := by rfl) (hpl : (backTo pos (starEach [b] X.env)).any (·.1) = false := by rfl) : PD X T W (.Call (.Name x p) [a, b] [] pos) (e2 g2 fa fb) :=
  PE.imp (pe_callB hc hg hm hv (pa_cons ha (pa_cons hb pa_nil hs2) hs) hn hdb hs hpl) fun _ _ _ q => tC2_of h q
theorem pd_bf2 (hc : CallR X (.builtin id) r) (h : OpC2 X.K T W r g2) (hg : Gl X x) (hm : X.mg x = some (.builtin id)) (ha : PD X T W a fa) (hb : PD X T W b fb) (hdb : (x == ("__debug__" : Str)) = false := by decide)
    (hs : starEach (a :: [b]) X.env = (false, eval a X.env) :: starEach [b] X.env := by rfl) (hs2 : starEach (b :: []) X.env = (false, eval b X.env) :: starEach [] X.env := by rfl) (hpl : (backTo pos (starEach [b] X.env)).any (·.1) = false := by rfl) : PD X T W (.Call (.Name x p) [a, b] [] pos) (e2 g2 fa fb) :=
  PE.imp (pe_callBfun hc hg hm (pa_cons ha (pa_cons hb pa_nil hs2) hs) hdb hs hpl) fun _ _ _ q => tC2_of h q
end
def gLen : G1 := fun x => match x with
  | .fro (.tup ds) => vI ds.length
  | .fro (.str z) => if z.length ≤ LINE then vI z.length else none
  | x => match asL x with
    | some ds => vI ds.length
    | none => none
def gAbs : G1
  | .fro (.int i) => vI (if i < 0 then -i else i)
  | _ => none
def gInt : G1
  | .fro (.int i) => vI i
  | .fro (.bl k) => vI (if k then 1 else 0)
  | _ => none
def gMax : G2 := gII fun i j => vI (if j > i then j else i)
def gMin : G2 := gII fun i j => vI (if j < i then j else i)
def gGcd : G2 := gII fun i j => vI ((Nat.gcd i.natAbs j.natAbs : Nat) : Int)
def gList : G1 := fun x => match x with
  | .fro (.tup ds) => some (.ok (.own ds))
  | x => match asL x with
    | some ds => some (.ok (.own ds))
    | none => none
def gTuple : G1 := fun x => match x with
  | .fro (.tup ds) => some (.ok (.fro (.tup ds)))
  | x => match asL x with
    | some ds => some (.ok (.fro (.tup ds)))
    | none => none
section
variable {X : Cx} {T : Tab} {W : WX} {p pos : Pos} {a b : Expr} {fa fb : FE}
theorem oc_len : OpC1 X.K T W (fun xs H Q => ∃ x n, xs = [x] ∧ LenV X.K x H n ∧ Q (.int n) H) gLen := fun σ B Z H x v out Q zh r1 hg p => by
  unfold gLen at hg
  split at hg
  · cases hg
    simp only [RRep, Rep] at r1
    obtain ⟨q, vs, rfl, h1, h2⟩ := r1
    refine ⟨_, vs.length, rfl, .inr ⟨vs, zh.seqT h1, rfl⟩, ?_⟩
    rw [h2.length]
    exact p.fro zh (by simp only [Rep])
  · split at hg
    · rename_i hz
      cases hg
      simp only [RRep, Rep] at r1
      subst r1
      exact ⟨_, _, rfl, ⟨line_of hz, rfl⟩, p.fro zh (by simp only [Rep])⟩
    · cases hg
  · split at hg
    · rename_i ds hds
      cases hg
      obtain ⟨q, vs, rfl, h1, h2⟩ := r1.list zh hds
      refine ⟨_, vs.length, rfl, .inl ⟨vs, h1, rfl⟩, ?_⟩
      rw [h2.length]
      exact p.fro zh (by simp only [Rep])
    · cases hg
theorem oc_abs : OpC1 X.K T W (fun xs H Q => ∃ i, xs = [.int i] ∧ Q (.int (if i < 0 then -i else i)) H) gAbs := fun σ B Z H x v out Q zh r1 hg p => by
  unfold gAbs at hg
  split at hg
  · cases hg
    simp only [RRep, Rep] at r1
    subst r1
    exact ⟨_, rfl, p.fro zh (by simp only [Rep])⟩
  · cases hg
theorem oc_int : OpC1 X.K T W (fun xs H Q => (∃ i, xs = [.int i] ∧ Q (.int i) H) ∨ ∃ k, xs = [.bl k] ∧ Q (.int (if k then 1 else 0)) H) gInt := fun σ B Z H x v out Q zh r1 hg p => by
  unfold gInt at hg
  split at hg
  · cases hg
    simp only [RRep, Rep] at r1
    subst r1
    exact .inl ⟨_, rfl, p.fro zh (by simp only [Rep])⟩
  · cases hg
    simp only [RRep, Rep] at r1
    subst r1
    exact .inr ⟨_, rfl, p.fro zh (by simp only [Rep])⟩
  · cases hg
theorem oc_II {g : Int → Int → Int} : OpC2 X.K T W (fun xs H Q => ∃ i j, xs = [.int i, .int j] ∧ Q (.int (g i j)) H) (gII fun i j => vI (g i j)) := fun σ B Z H x y v w out Q zh r1 r2 hg p => by
  obtain ⟨i, j, rfl, rfl, e⟩ := gII_inv hg
  cases e
  simp only [RRep, Rep] at r1 r2
  subst r1 r2
  exact ⟨i, j, rfl, p.fro zh (by simp only [Rep])⟩
theorem oc_list : OpC1 X.K T W (fun xs H Q => ∃ p ys, xs = [.ref p] ∧ (SqL X.K H p ys ∨ SqT X.K H p ys) ∧ ∀ l, H l = none → Q (.ref l) (upd H l (.lst ys))) gList := fun σ B Z H x v out Q zh r1 hg p => by
  unfold gList at hg
  split at hg
  · cases hg
    simp only [RRep, Rep] at r1
    obtain ⟨q, vs, rfl, h1, h2⟩ := r1
    exact ⟨q, vs, rfl, .inr (zh.seqT h1), fun l hl => p.own zh hl h2⟩
  · split at hg
    · rename_i ds hds
      cases hg
      obtain ⟨q, vs, rfl, h1, h2⟩ := r1.list zh hds
      exact ⟨q, vs, rfl, .inl h1, fun l hl => p.own zh hl h2⟩
    · cases hg
theorem oc_tuple : OpC1 X.K T W (fun xs H Q => ∃ p ys, xs = [.ref p] ∧ ((SqL X.K H p ys ∧ ∀ l, H l = none → Q (.ref l) (upd H l (.tup ys))) ∨ (SqT X.K H p ys ∧ Q (.ref p) H))) gTuple := fun σ B Z H x v out Q zh r1 hg p => by
  unfold gTuple at hg
  split at hg
  · cases hg
    have r1' := r1
    simp only [RRep, Rep] at r1
    obtain ⟨q, vs, rfl, h1, h2⟩ := r1
    exact ⟨q, vs, rfl, .inr ⟨zh.seqT h1, p.fro zh r1'⟩⟩
  · split at hg
    · rename_i ds hds
      cases hg
      obtain ⟨q, vs, rfl, h1, h2⟩ := r1.list zh hds
      exact ⟨q, vs, rfl, .inl ⟨h1, fun l hl => p.tup zh hl h2⟩⟩
    · cases hg
theorem pd_len (hm : X.mg "len" = none) (ha : PD X T W a fa) (hg : Gl X "len" := by rfl) (hs : starEach (a :: []) X.env = (false, eval a X.env) :: starEach [] X.env := by rfl) (hpl : (backTo pos (starEach [] X.env)).any (·.1) = false := by rfl) : PD X T W (.Call (.Name "len" p) [a] [] pos) (e1 gLen fa) :=
  pd_bi1 call_len oc_len hg hm boot_len ha (hs := hs) (hpl := hpl)
theorem pd_abs (hm : X.mg "abs" = none) (ha : PD X T W a fa) (hg : Gl X "abs" := by rfl) (hs : starEach (a :: []) X.env = (false, eval a X.env) :: starEach [] X.env := by rfl) (hpl : (backTo pos (starEach [] X.env)).any (·.1) = false := by rfl) : PD X T W (.Call (.Name "abs" p) [a] [] pos) (e1 gAbs fa) :=
  pd_bi1 call_abs oc_abs hg hm (by decide +kernel) ha (hs := hs) (hpl := hpl)
theorem pd_intf (hm : X.mg "int" = none) (ha : PD X T W a fa) (hg : Gl X "int" := by rfl) (hs : starEach (a :: []) X.env = (false, eval a X.env) :: starEach [] X.env := by rfl) (hpl : (backTo pos (starEach [] X.env)).any (·.1) = false := by rfl) : PD X T W (.Call (.Name "int" p) [a] [] pos) (e1 gInt fa) :=
  pd_ty1 call_int1 oc_int hg hm (by decide +kernel) ha (hs := hs) (hpl := hpl)
theorem pd_listf (hm : X.mg "list" = none) (ha : PD X T W a fa) (hg : Gl X "list" := by rfl) (hs : starEach (a :: []) X.env = (false, eval a X.env) :: starEach [] X.env := by rfl) (hpl : (backTo pos (starEach [] X.env)).any (·.1) = false := by rfl) : PD X T W (.Call (.Name "list" p) [a] [] pos) (e1 gList fa) :=
  pd_ty1 call_list_of oc_list hg hm (by decide +kernel) ha (hs := hs) (hpl := hpl)
theorem pd_tuplef (hm : X.mg "tuple" = none) (ha : PD X T W a fa) (hg : Gl X "tuple" := by rfl) (hs : starEach (a :: []) X.env = (false, eval a X.env) :: starEach [] X.env := by rfl) (hpl : (backTo pos (starEach [] X.env)).any (·.1) = false := by rfl) : PD X T W (.Call (.Name "tuple" p) [a] [] pos) (e1 gTuple fa) :=
  pd_ty1 call_tuple_of oc_tuple hg hm (by decide +kernel) ha (hs := hs) (hpl := hpl)
theorem pd_max (hc : X.calm = true) (hm : X.mg "max" = none) (ha : PD X T W a fa) (hb : PD X T W b fb) (hg : Gl X "max" := by rfl) (hs : starEach (a :: [b]) X.env = (false, eval a X.env) :: starEach [b] X.env := by rfl) (hs2 : starEach (b :: []) X.env = (false, eval b X.env) :: starEach [] X.env := by rfl)
    (hpl : (backTo pos (starEach [b] X.env)).any (·.1) = false := by rfl) : PD X T W (.Call (.Name "max" p) [a, b] [] pos) (e2 gMax fa fb) := pd_bi2 (call_max2 hc) oc_II hg hm (by decide +kernel) ha hb (hs := hs) (hs2 := hs2) (hpl := hpl)
theorem pd_gcd (hm : X.mg "gcd" = some (.builtin "math.gcd")) (ha : PD X T W a fa) (hb : PD X T W b fb) (hg : Gl X "gcd" := by rfl) (hs : starEach (a :: [b]) X.env = (false, eval a X.env) :: starEach [b] X.env := by rfl) (hs2 : starEach (b :: []) X.env = (false, eval b X.env) :: starEach [] X.env := by rfl)
    (hpl : (backTo pos (starEach [b] X.env)).any (·.1) = false := by rfl) : PD X T W (.Call (.Name "gcd" p) [a, b] [] pos) (e2 gGcd fa fb) := pd_bf2 cr_gcd oc_II hg hm ha hb (hs := hs) (hs2 := hs2) (hpl := hpl)
end
inductive CR where
  | ty (n : String) | own (c : Nat)
  deriving DecidableEq
def CR.val (T : Tab) : CR → Value
  | .ty n => .type n
  | .own c => .ref (T.ca c)
def CR.v (T : Tab) : CR → V
  | .ty n => .ty n
  | .own c => .ref (T.ca c)
def typD : Dt → Option CR
  | .non => some (.ty "NoneType") | .bl _ => some (.ty "bool") | .int _ => some (.ty "int") | .str _ => some (.ty "str") | .tup _ => some (.ty "tuple") | .lst _ => some (.ty "list") | .ins c _ => some (.own c) | .ty _ => none
def typR : Rs → Option CR
  | .fro d => typD d
  | _ => some (.ty "list")
def gIsi (ans : CR → Option Bool) : G1 := fun r => match typR r with
  | some t => match ans t with
    | some b => vB b
    | none => none
  | none => none
structure IsiC (K : PySem.W.Frag) (T : Tab) (c : Nat) : Prop where
  cls : Cls K (T.ca c)
  ha : PySem.W.findIn K (.ref (T.ca c)) "__class__" = some (some (.builtin "object.__class__"))
  hn : PySem.W.specialIn K (.builtin "object.__class__") "__get__" = some (some (.builtin "getset_descriptor.__get__"))
  htk : PySem.W.takesIn K (.builtin "object.__class__") = some true
  hm : PySem.W.mroIn K (T.ca c) (.type "object") = some true
theorem sqL_ty {K : PySem.W.Frag} {H : Hp} {p : Addr} {vs : List V} (h : SqL K H p vs) : TyX K H (.ref p) (.type "list") := by
  rcases h with (h | ⟨o, h⟩) | ⟨o, its, n, hk, hc, _⟩
  · exact .base (.lst h)
  · exact .base (.frz h)
  · exact .kList hk hc
theorem sqT_ty {K : PySem.W.Frag} {H : Hp} {p : Addr} {vs : List V} (h : SqT K H p vs) : TyX K H (.ref p) (.type "tuple") := by
  rcases h with (h | ⟨o, h⟩) | ⟨o, its, n, hk, hc, _⟩
  · exact .base (.tup h)
  · exact .fTuple h
  · exact .kTuple hk hc
theorem typR_ok {K : PySem.W.Frag} {T : Tab} {B Z H : Hp} {r : Rs} {v : V} {t : CR} (hI : ∀ c, t = .own c → IsiC K T c) (zh : Le Z H) (h : RRep K T B Z H v r) (e : typR r = some t) : TyX K H v (t.val T) := by
  cases r with
  | own ds => cases e; obtain ⟨p, vs, rfl, _, h1, _⟩ := h; exact sqL_ty (.of h1)
  | bor ds => cases e; obtain ⟨p, vs, rfl, h1, _⟩ := h; exact sqL_ty (.of h1)
  | fro d =>
    cases d <;> simp only [typR, typD, Option.some.injEq, reduceCtorEq] at e <;> subst e <;> simp only [RRep, Rep] at h
    · subst h; exact .base .non
    · subst h; exact .base (.bl _)
    · subst h; exact .base (.int _)
    · subst h; exact .base (.str _)
    · obtain ⟨p, vs, rfl, h1, _⟩ := h; exact sqT_ty (zh.seqT h1)
    · obtain ⟨p, vs, rfl, h1, _⟩ := h; exact sqL_ty (zh.seqL h1)
    · obtain ⟨p, dx, vs, rfl, h1, _⟩ := h
      have I := hI _ rfl
      exact .base (.ins (zh _ _ h1) I.cls I.ha I.hn I.htk I.hm)
section
variable {X : Cx} {T : Tab} {W : WX} {p pos : Pos} {a b : Expr} {fa : FE}
theorem pd_isi (cr : CR) {ans : CR → Option Bool} (hA : ∀ t r, ans t = some r → PySem.W.kitOne X.K (t.val T) (cr.val T) = some r) (hI : ∀ c r, ans (.own c) = some r → IsiC X.K T c) (hm : X.mg "isinstance" = none) (ha : PD X T W a fa) (hb : PE X b (tC (cr.v T)))
    (hg : Gl X "isinstance" := by rfl) (hs : starEach (a :: [b]) X.env = (false, eval a X.env) :: starEach [b] X.env := by rfl) (hs2 : starEach (b :: []) X.env = (false, eval b X.env) :: starEach [] X.env := by rfl)
    (hpl : (backTo pos (starEach [b] X.env)).any (·.1) = false := by rfl) : PD X T W (.Call (.Name "isinstance" p) [a, b] [] pos) (e1 (gIsi ans) fa) := by
  refine PE.imp (pe_callB call_isi hg hm PyProof.Rows.boot_isinstance (pa_cons ha (pa_cons hb pa_nil hs2) hs) (by decide) (by decide) hs hpl) fun σ H Q ⟨H0, Z0, env, Z, out, hf, s, p⟩ => ?_
  refine tD_bnd hf s p fun x v Z1 H1 hk e1 r1 s1 p1 => ?_
  show rIsi X.K [v, cr.v T] H1 Q
  unfold gIsi at hk
  split at hk
  · rename_i t ht
    split at hk
    · rename_i r hr
      cases hk
      refine ⟨v, cr.v T, t.val T, cr.val T, r, rfl, ?_, typR_ok (fun c e => hI c r (by rw [← e]; exact hr)) e1.zh r1 ht, hA t r hr, p1.fro e1.zh (by simp only [Rep])⟩
      cases cr with
      | ty n => exact .ty n
      | own c => exact .own _
    · cases hk
  · cases hk
def ansB (n : String) (cs : List Nat) : CR → Option Bool
  | .ty m => kitB m n
  | .own c => if cs.contains c then some false else none
end
theorem SI.change {K : PySem.W.Frag} {T : Tab} {H0 Z1 H1 : Hp} {Z0 : Hx} {env : PEnv} {σ : St} {i : Nat} {ds es : List Dt} {ws : List V} {q : Addr} (s : SI K T H0 Z0 env σ Z1 H1) (he : env[i]? = some (some (.own ds))) (hσ : σ[i]? = some (some (.ref q)))
    (rs : Reps K T Z1 es ws) : SI K T H0 Z0 (env.set i (some (.own es))) σ Z1 (upd H1 q (.lst ws)) := by
  obtain ⟨w, h1, q', vs, rfl, b, hq, zq, _⟩ := s.cell i _ he
  rw [hσ] at h1
  cases h1
  have oi : isOwnC env[i]? := by rw [he]; exact True.intro
  have hl2 : i < env.length := (List.getElem?_eq_some_iff.mp he).1
  refine ⟨⟨fun a o h => ?_, s.ext.zz, fun a o h => ?_, s.ext.st⟩, by simp [s.len], fun m cl hm' => ?_, fun m k u hmk a1 a2 a3 a4 => ?_, fun m c2 ds2 v2 hm' h' => ?_⟩
  · have ne : a ≠ q := fun z => by subst z; rw [b] at h; cases h
    rw [upd_ne ne]; exact s.ext.hh _ _ h
  · have ne : a ≠ q := fun z => by subst z; rw [zq] at h; cases h
    rw [upd_ne ne]; exact s.ext.zh _ _ h
  · by_cases z : i = m
    · subst z
      rw [List.getElem?_set_self hl2] at hm'
      cases hm'
      exact ⟨_, hσ, q, _, rfl, b, upd_same, zq, rs⟩
    · rw [List.getElem?_set_ne z] at hm'
      obtain ⟨u, g1, g2⟩ := s.cell m cl hm'
      refine ⟨u, g1, ?_⟩
      cases cl with
      | fro d => exact g2
      | own es =>
        obtain ⟨q2, ws, rfl, b2, hq2, zq2, rs2⟩ := g2
        have ne : q2 ≠ q := fun y => by
          subst y
          exact s.sep i m _ z oi (by rw [hm']; exact True.intro) hσ g1
        exact ⟨q2, ws, rfl, b2, by rw [upd_ne ne]; exact hq2, zq2, rs2⟩
      | mk c es =>
        obtain ⟨q2, dx2, ws, rfl, b2, hq2, zq2, rs2⟩ := g2
        have ne : q2 ≠ q := fun y => by
          subst y
          exact s.sep i m _ z oi (by rw [hm']; exact True.intro) hσ g1
        exact ⟨q2, dx2, ws, rfl, b2, by rw [upd_ne ne]; exact hq2, zq2, rs2⟩
  · have nf : ∀ r : Nat, isOwnC ((env.set i (some (.own es)))[r]?) → isOwnC env[r]? := fun r hr => by
      by_cases z : i = r
      · subst z; exact oi
      · rw [List.getElem?_set_ne z] at hr; exact hr
    exact s.sep m k u hmk (nf m a1) (nf k a2) a3 a4
  · by_cases z : i = m
    · subst z
      rw [List.getElem?_set_self hl2] at hm'; cases hm'
    · rw [List.getElem?_set_ne z] at hm'; exact s.me m _ _ _ hm' h'
def sApp (i : Nat) (f : FE) : FS := fun ρ => match ρ[i]? with
  | some (some (.own ds)) => bndS ρ (f ρ) fun r => bndS ρ (frz r) fun d => if ds.length < LINE then some (.nx (ρ.set i (some (.own (ds ++ [d]))))) else none
  | _ => none
def sSetIx (i : Nat) (fk f : FE) : FS := fun ρ => match ρ[i]? with
  | some (some (.own ds)) => bndS ρ (f ρ) fun r => bndS ρ (frz r) fun d => bndS ρ (fk ρ) fun k => bndS ρ (asI k) fun k => match ixN ds.length k with
    | some j => some (.nx (ρ.set i (some (.own (ds.set j d)))))
    | none => none
  | _ => none
def sPop (i : Nat) : FS := fun ρ => match ρ[i]? with
  | some (some (.own ds)) => if ds = [] then none else some (.nx (ρ.set i (some (.own ds.dropLast))))
  | _ => none
section
variable {X : Cx} {T : Tab} {W : WX} {i : Nat} {x : Str} {xp apos cpos pos pos' : Pos} {e k : Expr} {f fk : FE}
theorem var_own {K : PySem.W.Frag} {H0 Z H : Hp} {Z0 : Hx} {env : PEnv} {σ : St} {ds : List Dt} (s : SI K T H0 Z0 env σ Z H) (he : env[i]? = some (some (.own ds))) : ∃ q vs, σ[i]? = some (some (.ref q)) ∧ H q = some (.lst vs) ∧ Reps K T Z ds vs := by
  obtain ⟨w, h1, q, vs, rfl, b, hq, zq, rs⟩ := s.cell i _ he
  exact ⟨q, vs, h1, hq, rs⟩
theorem pds_app (he : PD X T W e f) (hN : X.N[i]? = some x := by rfl) (hv : Vis X.env.scope x := by first | exact Or.inl rfl | exact Or.inr (Or.inl rfl) | exact Or.inr (Or.inr rfl)) (hd : (x == ("__debug__" : Str)) = false := by decide) (hcd : (x == ("__classdict__" : Str)) = false := by decide)
    (hbase : attributeBase (.Name x xp) "append" X.env (eval (.Name x xp) X.env) = eval (.Name x xp) X.env := by rfl)
    (hfew : ((backTo cpos (starEach (e :: []) X.env)).all (fun x => !x.1) && (backToKw cpos (keywordEach [] X.env)).all (fun x => x.1.isSome)
      && decide ((e :: []).length + ([] : List Keyword).length + (if ([] : List Keyword).isEmpty then 0 else 1) < 30)) = true := by rfl)
    (hline : (apos.endLine == cpos.line) = true := by rfl) (hs : starEach (e :: []) X.env = (false, eval e X.env) :: starEach [] X.env := by rfl) (hplain : (backTo cpos (starEach [] X.env)).any (·.1) = false := by rfl)
    (hsw : swapsWith (.Call (.Attribute (.Name x xp) "append" apos) [e] [] cpos) none pos.line X.env = pure false := by rfl) :
    PDS X T W (.Expr (.Call (.Attribute (.Name x xp) "append" apos) [e] [] cpos) pos) (sApp i f) := by
  refine PS.imp (ps_expr (pe_bm PySem.F.plainAttrs_list PySem.F.slot_list_append PySem.F.type_list_append mt_append (pe_var hN hv hd hcd) (pa_cons he pa_nil hs) hbase hfew hline hs hplain) hsw) fun D σ H ⟨H0, Z0, env, Z, out, h, s, p⟩ => ?_
  unfold sApp at h
  split at h
  · rename_i ds hk
    obtain ⟨q, vs, g1, g2, g3⟩ := var_own s hk
    refine ⟨_, g1, .inl ⟨rfl, vs, .of g2⟩, ?_⟩
    refine tD_bndSF h s p fun d v Z1 H1 hkk e1 rd s1 => ?_
    split at hkk
    · rename_i hl
      cases hkk
      obtain ⟨q', vs', g1', g2', g3'⟩ := var_own s1 hk
      rw [g1] at g1'
      cases g1'
      refine ⟨q, vs', v, rfl, rfl, g2', by rw [g3'.length, ← LINE_eq]; exact hl, ?_⟩
      exact p.nx _ rfl σ Z1 _ (s1.change hk g1 (g3'.append (.cons rd .nil)))
    · cases hkk
  · cases h
theorem pds_setIx (he : PD X T W e f) (hk : PD X T W k fk) (hN : X.N[i]? = some x := by rfl) (hv : Vis X.env.scope x := by first | exact Or.inl rfl | exact Or.inr (Or.inl rfl) | exact Or.inr (Or.inr rfl)) (hd : (x == ("__debug__" : Str)) = false := by decide) (hcd : (x == ("__classdict__" : Str)) = false := by decide)
    (ha : ∀ v, assign (.Subscript (.Name x xp) k pos') X.env v = (do
      let ov ← holding [v] (eval (.Name x xp) X.env)
      let iv ← holding [v, ov] (eval k X.env)
      standAt pos'
      holding [v, ov, iv] (setItem ov iv v)
      release [v, ov, iv] []) := by intro _; rfl)
    (hs : swapsWithSole [.Subscript (.Name x xp) k pos'] e pos.line X.env = pure false := by rfl) (hw : swappedStores [.Subscript (.Name x xp) k pos'] e X.env = pure none := by rfl)
    (h1 : (assignEach [.Subscript (.Name x xp) k pos'] X.env).map (·.2) = [assign (.Subscript (.Name x xp) k pos') X.env] := by rfl) :
    PDS X T W (.Assign [.Subscript (.Name x xp) k pos'] e pos) (sSetIx i fk f) := by
  refine PS.imp (ps_asg he (pg_sub (pe_var hN hv hd hcd) hk set_list ha) hs hw h1) fun D σ H ⟨H0, Z0, env, Z, out, h, s, p⟩ => ?_
  unfold sSetIx at h
  split at h
  · rename_i ds hk
    refine tD_bndSF h s p fun d v Z1 H1 hkk e1 rd s1 => ?_
    obtain ⟨q, vs, g1, g2, g3⟩ := var_own s1 hk
    refine ⟨_, g1, ?_⟩
    refine tD_bndS hkk s1 p fun r w Z2 H2 hk2 e2 rr s2 => ?_
    rcases bndS_cases hk2 with ⟨c, es, q1, q2⟩ | ⟨kk, q1, q2⟩
    · unfold asI at q1; split at q1 <;> cases q1
    · unfold asI at q1
      split at q1
      · cases q1
        simp only [RRep, Rep] at rr
        split at q2
        · rename_i j hj
          cases q2
          obtain ⟨q', vs', g1', g2', g3'⟩ := var_own s2 hk
          rw [g1] at g1'
          cases g1'
          refine ⟨q, vs', kk, j, rfl, rr, g2', by rw [g3'.length]; exact hj, ?_⟩
          exact p.nx _ rfl σ Z2 _ (s2.change hk g1 (g3'.set j (rd.mono e2.zz)))
        · cases q2
      · cases q1
  · cases h
theorem pds_pop (hN : X.N[i]? = some x := by rfl) (hv : Vis X.env.scope x := by first | exact Or.inl rfl | exact Or.inr (Or.inl rfl) | exact Or.inr (Or.inr rfl)) (hd : (x == ("__debug__" : Str)) = false := by decide) (hcd : (x == ("__classdict__" : Str)) = false := by decide)
    (hbase : attributeBase (.Name x xp) "pop" X.env (eval (.Name x xp) X.env) = eval (.Name x xp) X.env := by rfl) (hline : (apos.endLine == cpos.line) = true := by rfl)
    (hsw : swapsWith (.Call (.Attribute (.Name x xp) "pop" apos) [] [] cpos) none pos.line X.env = pure false := by rfl) :
    PDS X T W (.Expr (.Call (.Attribute (.Name x xp) "pop" apos) [] [] cpos) pos) (sPop i) := by
  refine PS.imp (ps_expr (pe_bm0 PySem.F.plainAttrs_list PySem.F.slot_list_pop PySem.F.type_list_pop mt_pop (pe_var hN hv hd hcd) hbase hline) hsw) fun D σ H ⟨H0, Z0, env, Z, out, h, s, p⟩ => ?_
  unfold sPop at h
  split at h
  · rename_i ds hk
    obtain ⟨q, vs, g1, g2, g3⟩ := var_own s hk
    split at h
    · cases h
    · rename_i hne
      cases h
      have hl : 0 < vs.length := by rw [g3.length]; exact List.length_pos_iff.mpr hne
      refine ⟨_, g1, .inl ⟨rfl, vs, .of g2⟩, q, vs, vs[vs.length - 1]'(by omega), rfl, rfl, g2, by simp, ?_⟩
      exact p.nx _ rfl σ Z _ (s.change hk g1 g3.dropLast)
  · cases h
def sAug (g : G2) (i : Nat) (f : FE) : FS := fun ρ => match ρ[i]? with
  | some (some (.fro d)) => bndS ρ (f ρ) fun r => bndS ρ (g (.fro d) r) fun r => match celOf r with
    | some c => some (.nx (ρ.set i (some c)))
    | none => none
  | _ => none
theorem pds_augI {op : Operator} {gg : Int → Int → Int} (hop : PIp X op (ipI gg)) (hN : X.N.Nodup) (he : PD X T W e f) (hi : X.N[i]? = some x := by rfl) (hx : Loc X.env.scope x := by first | exact Or.inl rfl | exact Or.inr rfl) (hf : X.fn x = true ∨ X.env.scope.names.lookup x = some .local := by first | exact .inl rfl | exact .inr rfl) :
    PDS X T W (.AugAssign (.Name x xp) op e pos) (sAug (gII fun a b => vI (gg a b)) i f) := by
  refine PS.imp (ps_aug hN hi hx he hop hf) fun D σ H ⟨H0, Z0, env, Z, out, h, s, p⟩ => ?_
  unfold sAug at h
  split at h
  · rename_i d hd
    obtain ⟨v, g1, g2⟩ := s.cell i _ hd
    refine ⟨v, g1, ?_⟩
    refine tD_bndS h s p fun r w Z1 H1 hk e1 rr s1 => ?_
    rcases bndS_cases hk with ⟨c, es, q1, q2⟩ | ⟨r2, q1, q2⟩
    · obtain ⟨a, b, _, _, z⟩ := gII_inv q1; cases z
    · obtain ⟨a, b, ea, rfl, z⟩ := gII_inv q1
      cases ea
      cases z
      simp only [RRep, CRep, Rep] at rr g2
      subst rr g2
      cases q2
      exact ⟨a, b, rfl, rfl, p.nx _ rfl _ Z1 H1 (s1.setFro (by simp only [Rep]))⟩
  · cases h
end
end Pd
set_option maxHeartbeats 2000000
namespace Pd
open PySem PySem.Spec L2
open PyProof.Rows (envOfC)
abbrev GT := Dt → PEnv → Option PEnv
def TgD (K : PySem.W.Frag) (T : Tab) (g : TG) (gt : GT) (vs : List Nat) : Prop := ∀ (H0 : Hp) (Z0 : Hx) (env env' : PEnv) (σ : St) (Z H : Hp) (d : Dt) (v : V) (Q : St → Hp → Prop), gt d env = some env' → Rep K T Z d v → SI K T H0 Z0 env σ Z H →
  (∀ σ', SI K T H0 Z0 env' σ' Z H → wipe σ' vs = wipe σ vs → Q σ' H) → g v σ H Q
def gtName (i : Nat) : GT := fun d ρ => some (ρ.set i (some (.fro d)))
theorem wipe_set {σ : St} {i : Nat} {x : Option V} : ∀ {vs : List Nat}, i ∈ vs → wipe (σ.set i x) vs = wipe σ vs
  | [], h => by simp at h
  | v :: vs, h => by
    by_cases hv : i ∈ vs
    · show (wipe (σ.set i x) vs).set v none = (wipe σ vs).set v none
      rw [wipe_set hv]
    · have e : i = v := by
        rcases List.mem_cons.mp h with e | e
        · exact e
        · exact absurd e hv
      subst e
      show (wipe (σ.set i x) vs).set i none = (wipe σ vs).set i none
      have comm : ∀ ws : List Nat, i ∉ ws → wipe (σ.set i x) ws = (wipe σ ws).set i x := by
        intro ws
        induction ws with
        | nil => intro _; rfl
        | cons w ws ih =>
          intro hw
          show (wipe (σ.set i x) ws).set w none = ((wipe σ ws).set w none).set i x
          rw [ih fun z => hw (List.mem_cons_of_mem _ z), List.set_comm]
          exact fun z => hw (by simp [z])
      rw [comm vs hv, List.set_set]
theorem tg_name {K : PySem.W.Frag} {T : Tab} {i : Nat} {vs : List Nat} (h : i ∈ vs) : TgD K T (gName i) (gtName i) vs := fun H0 Z0 env env' σ Z H d v Q e r s q => by
  cases e
  exact q _ (s.setFro r) (wipe_set h)
def gtNames : List Nat → List Dt → PEnv → Option PEnv
  | [], [], ρ => some ρ
  | i :: is, d :: ds, ρ => gtNames is ds (ρ.set i (some (.fro d)))
  | _, _, _ => none
def gtTup (is : List Nat) : GT := fun d ρ => match d with
  | .tup ds => gtNames is ds ρ
  | _ => none
def gNames : List Nat → TGs
  | [] => gNil
  | i :: is => gCons (gName i) (gNames is)
theorem names_run {K : PySem.W.Frag} {T : Tab} {vs : List Nat} : ∀ {is : List Nat} {ds : List Dt} {xs : List V} {H0 : Hp} {Z0 : Hx} {env env' : PEnv} {σ : St} {Z H : Hp} {Q : St → Hp → Prop}, (∀ i ∈ is, i ∈ vs) → gtNames is ds env = some env' → Reps K T Z ds xs → SI K T H0 Z0 env σ Z H →
    (∀ σ', SI K T H0 Z0 env' σ' Z H → wipe σ' vs = wipe σ vs → Q σ' H) → gNames is xs σ H Q
  | [], [], xs, _, _, _, _, _, _, _, _, _, e, r, s, q => by
    cases e
    exact ⟨r.nil_inv, q _ s rfl⟩
  | i :: is, d :: ds, xs, _, _, _, _, _, _, _, _, hv, e, r, s, q => by
    obtain ⟨x, r', rfl, r1, r2⟩ := r.cons_inv
    refine ⟨x, r', rfl, ?_⟩
    exact names_run (is := is) (fun j hj => hv j (List.mem_cons_of_mem _ hj)) e r2 (s.setFro r1) fun σ' s' w => q σ' s' (w.trans (wipe_set (hv i (by simp))))
  | [], _ :: _, _, _, _, _, _, _, _, _, _, _, e, _, _, _ => by cases e
  | _ :: _, [], _, _, _, _, _, _, _, _, _, _, e, _, _, _ => by cases e
theorem gtNames_len : ∀ {is : List Nat} {ds : List Dt} {ρ ρ' : PEnv}, gtNames is ds ρ = some ρ' → is.length = ds.length
  | [], [], _, _, _ => rfl
  | _ :: _, _ :: _, _, _, h => congrArg Nat.succ (gtNames_len h)
  | [], _ :: _, _, _, h => by cases h
  | _ :: _, [], _, _, h => by cases h
theorem tg_tup {K : PySem.W.Frag} {T : Tab} {is vs : List Nat} {n : Nat} (hn : n = is.length) (h : ∀ i ∈ is, i ∈ vs) : TgD K T (gTup K n (gNames is)) (gtTup is) vs := fun H0 Z0 env env' σ Z H d v Q e r s q => by
  unfold gtTup at e
  split at e
  · rename_i ds
    simp only [Rep] at r
    obtain ⟨p, xs, rfl, h1, h2⟩ := r
    exact ⟨p, xs, rfl, s.zh.seqT h1, by rw [h2.length, hn, gtNames_len e], names_run h e h2 s q⟩
  · cases e
section
variable {X : Cx} {T : Tab} {W : WX} {e : Expr} {es : List Expr} {f : FE} {pos tpos : Pos} {k : Nat}
theorem pgs_name {i : Nat} {is : List Nat} {x : Str} {xp : Pos} (hN : X.N.Nodup) (h : PGs X es (gNames is)) (hi : X.N[i]? = some x := by rfl) (hx : Loc X.env.scope x := by first | exact Or.inl rfl | exact Or.inr rfl)
    (hs : (assignEach (.Name x xp :: es) X.env).map (·.2) = assign (.Name x xp) X.env :: (assignEach es X.env).map (·.2) := by rfl) (hf : X.fn x = true ∨ X.env.scope.names.lookup x = some .local := by first | exact .inl rfl | exact .inr rfl) : PGs X (.Name x xp :: es) (gNames (i :: is)) := pgs_cons (pg_name hN hi hx hf) h hs
theorem pgs_none : PGs X [] (gNames []) := pgs_nil
end
def ItD (K : PySem.W.Frag) (T : Tab) (J : It) (Z1 H1 : Hp) (ds : List Dt) : Prop :=
  (∀ (i : Nat) (d : Dt) (Z H : Hp), Le Z1 Z → Le Z H → ds[i]? = some d → J.go i H ∧ ∀ x H', J.yld i H x H' → ∃ Z', Ext4 Z H Z' H' ∧ Rep K T Z' d x) ∧
  ∀ (i : Nat) (Z H : Hp), Le Z1 Z → Le Z H → ds.length ≤ i → J.stop i H
abbrev FIt := PEnv → M (List Dt)
structure PostI (K : PySem.W.Frag) (T : Tab) (Z H : Hp) (σ : St) (W : WX) (R : It → Hp → Prop) (out : Ex (List Dt)) : Prop where
  ok : ∀ ds, out = .ok ds → ∀ J Z' H', Ext4 Z H Z' H' → ItD K T J Z' H' ds → R J H'
  ex : ∀ c ds, out = .ex c ds → ∀ cls d Z' H', Ext4 Z H Z' H' → XRep K T Z' H' cls d c ds → W cls d σ H'
def tDI (K : PySem.W.Frag) (T : Tab) (W : WX) (f : FIt) : TI := fun σ H R => ∃ H0 Z0 env Z out, f env = some out ∧ SI K T H0 Z0 env σ Z H ∧ PostI K T Z H σ W R out
abbrev PDI (X : Cx) (T : Tab) (W : WX) (tg e : Expr) (f : FIt) : Prop := PI X tg e (tDI X.K T W f)
theorem PI.imp {X : Cx} {tg e : Expr} {t t' : TI} (h : PI X tg e t) (i : ∀ σ H R, t' σ H R → t σ H R) : PI X tg e t' := ⟨fun pins s σ H R I q => h.run pins s σ H R I (i σ H R q)⟩
theorem PI.or {X : Cx} {tg e : Expr} {t t' : TI} (h : PI X tg e t) (h' : PI X tg e t') : PI X tg e (fun σ H R => t σ H R ∨ t' σ H R) := ⟨fun pins s σ H R I q => q.elim (h.run pins s σ H R I) (h'.run pins s σ H R I)⟩
theorem itD_list {K : PySem.W.Frag} {T : Tab} {Z1 H1 : Hp} {a : Addr} {vs : List V} {ds : List Dt} (h : SqL K Z1 a vs) (r : Reps K T Z1 ds vs) : ItD K T (Itl K a) Z1 H1 ds := by
  refine ⟨fun i d Z H l1 l2 hd => ?_, fun i Z H l1 l2 hi => ⟨vs, l2.seqL (l1.seqL h), by rw [r.length]; exact hi⟩⟩
  obtain ⟨w, g1, g2⟩ := r.get hd
  refine ⟨⟨vs, w, l2.seqL (l1.seqL h), g1⟩, fun x H' ⟨e, y⟩ => ?_⟩
  subst e
  have := y vs (l2.seqL (l1.seqL h))
  rw [g1] at this
  cases this
  exact ⟨Z, Ext4.refl l2, g2.mono l1⟩
theorem itD_tup {K : PySem.W.Frag} {T : Tab} {Z1 H1 : Hp} {a : Addr} {vs : List V} {ds : List Dt} (h : SqT K Z1 a vs) (r : Reps K T Z1 ds vs) : ItD K T (Itt K a) Z1 H1 ds := by
  refine ⟨fun i d Z H l1 l2 hd => ?_, fun i Z H l1 l2 hi => ⟨vs, l2.seqT (l1.seqT h), by rw [r.length]; exact hi⟩⟩
  obtain ⟨w, g1, g2⟩ := r.get hd
  refine ⟨⟨vs, w, l2.seqT (l1.seqT h), g1⟩, fun x H' ⟨e, y⟩ => ?_⟩
  subst e
  have := y vs (l2.seqT (l1.seqT h))
  rw [g1] at this
  cases this
  exact ⟨Z, Ext4.refl l2, g2.mono l1⟩
def asSeq : Dt → Option (List Dt)
  | .lst ds => some ds
  | .tup ds => some ds
  | _ => none
def iSeq (f : FE) : FIt := fun ρ => bnd (f ρ) fun r => bnd (frz r) fun d => match asSeq d with
  | some ds => some (.ok ds)
  | none => none
def intsFrom (a : Int) : Nat → List Dt
  | 0 => []
  | n + 1 => .int a :: intsFrom (a + 1) n
theorem intsFrom_length (a : Int) (n : Nat) : (intsFrom a n).length = n := by
  induction n generalizing a with
  | zero => rfl
  | succ n ih => simp [intsFrom, ih]
theorem intsFrom_get (a : Int) (n i : Nat) {d : Dt} (h : (intsFrom a n)[i]? = some d) : i < n ∧ d = .int (a + i) := by
  induction n generalizing a i with
  | zero => simp [intsFrom] at h
  | succ n ih =>
    cases i with
    | zero => simp [intsFrom] at h; exact ⟨by omega, by rw [← h]; simp⟩
    | succ i =>
      obtain ⟨h1, h2⟩ := ih (a + 1) i (by simpa [intsFrom] using h)
      refine ⟨by omega, ?_⟩
      rw [h2]
      congr 1
      omega
def intsBy (a c : Int) : Nat → List Dt
  | 0 => []
  | n + 1 => .int a :: intsBy (a + c) c n
theorem intsBy_length (a c : Int) (n : Nat) : (intsBy a c n).length = n := by
  induction n generalizing a with
  | zero => rfl
  | succ n ih => simp [intsBy, ih]
theorem intsBy_get (a c : Int) (n i : Nat) {d : Dt} (h : (intsBy a c n)[i]? = some d) : i < n ∧ d = .int (a + i * c) := by
  induction n generalizing a i with
  | zero => simp [intsBy] at h
  | succ n ih =>
    cases i with
    | zero => simp [intsBy] at h; exact ⟨by omega, by rw [← h]; simp⟩
    | succ i =>
      obtain ⟨h1, h2⟩ := ih (a + c) i (by simpa [intsBy] using h)
      refine ⟨by omega, ?_⟩
      rw [h2]
      congr 1
      have : ((i + 1 : Nat) : Int) * c = (i : Int) * c + c := by
        rw [Int.natCast_add, Int.add_mul]; simp
      omega
theorem itD_rng {K : PySem.W.Frag} {T : Tab} {Z1 H1 : Hp} {lo : Int} {n : Nat} : ItD K T (Itr lo n) Z1 H1 (intsFrom lo n) := by
  refine ⟨fun i d Z H l1 l2 hd => ?_, fun i Z H l1 l2 hi => ?_⟩
  · obtain ⟨h1, rfl⟩ := intsFrom_get lo n i hd
    exact ⟨h1, fun x H' ⟨e, y⟩ => by subst e; subst y; exact ⟨Z, Ext4.refl l2, by simp only [Rep]⟩⟩
  · show n ≤ i
    rw [intsFrom_length] at hi
    exact hi
theorem itD_rngC {K : PySem.W.Frag} {T : Tab} {Z1 H1 : Hp} {lo c : Int} {n : Nat} : ItD K T (Itc lo c n) Z1 H1 (intsBy lo c n) := by
  refine ⟨fun i d Z H l1 l2 hd => ?_, fun i Z H l1 l2 hi => ?_⟩
  · obtain ⟨h1, rfl⟩ := intsBy_get lo c n i hd
    exact ⟨h1, fun x H' ⟨e, y⟩ => by subst e; subst y; exact ⟨Z, Ext4.refl l2, by simp only [Rep]⟩⟩
  · show n ≤ i
    rw [intsBy_length] at hi
    exact hi
def rOk (i : Int) : Bool := decide (-(2 ^ 62) ≤ i) && decide (i < 2 ^ 62)
theorem rOk_iff {i : Int} (h : rOk i = true) : -(2 ^ 62) ≤ i ∧ i < 2 ^ 62 := by
  unfold rOk at h
  rw [Bool.and_eq_true, decide_eq_true_eq, decide_eq_true_eq] at h
  exact h
def iRng1 (f : FE) : FIt := fun ρ => bnd (f ρ) fun r => bnd (asI r) fun n => if rOk n then some (.ok (intsFrom 0 n.toNat)) else none
def iRngD (f g : FE) : FIt := fun ρ => bnd (f ρ) fun r => bnd (g ρ) fun q => bnd (asI r) fun a => bnd (asI q) fun b => if rOk a && rOk b then some (.ok (intsBy a (-1) (a - b).toNat)) else none
section
variable {K : PySem.W.Frag} {T : Tab} {W : WX} {H0 Z H : Hp} {Z0 : Hx} {env : PEnv} {σ : St} {R : It → Hp → Prop} {out : Ex (List Dt)}
theorem PostI.step {Z1 H1 : Hp} (p : PostI K T Z H σ W R out) (e : Ext4 Z H Z1 H1) : PostI K T Z1 H1 σ W R out :=
  ⟨fun ds h J Z' H' e' => p.ok ds h J Z' H' (e.trans e'), fun c ds h cls d Z' H' e' x => p.ex c ds h cls d Z' H' (e.trans e') x⟩
theorem tD_bndI {fa : FE} {k : Rs → M (List Dt)} {G : VK} (h : bnd (fa env) k = some out) (s : SI K T H0 Z0 env σ Z H) (p : PostI K T Z H σ W R out)
    (go : ∀ r v Z1 H1, k r = some out → Ext4 Z H Z1 H1 → RRep K T H Z1 H1 v r → SI K T H0 Z0 env σ Z1 H1 → PostI K T Z1 H1 σ W R out → G v H1) : tD K T W fa σ H G := by
  rcases bnd_cases h with ⟨c, ds, e1, e2⟩ | ⟨r, e1, e2⟩
  · exact ⟨H0, Z0, env, Z, _, e1, s, fun r q => (nomatch q), fun c' ds' q cls d Z' H' e x => by cases q; exact p.ex _ _ e2 cls d Z' H' e x⟩
  · refine ⟨H0, Z0, env, Z, _, e1, s, fun r' q v Z' H' e rr => ?_, fun c' ds' q => (nomatch q)⟩
    cases q
    exact go r v Z' H' e2 e rr (s.step e) (p.step e)
theorem asI_inv {r : Rs} {α : Type} {k : Int → M α} {o : Ex α} (h : bnd (asI r) k = some o) : ∃ i, r = .fro (.int i) ∧ k i = some o := by
  rcases bnd_cases h with ⟨c, ds, e1, _⟩ | ⟨i, e1, e2⟩
  · unfold asI at e1; split at e1 <;> cases e1
  · unfold asI at e1
    split at e1
    · cases e1; exact ⟨_, rfl, e2⟩
    · cases e1
variable {X : Cx} {tg e a b : Expr} {f fa fb : FE} {p pos : Pos}
theorem pdi_seq (he : PD X T W e f) : PDI X T W tg e (iSeq f) := by
  refine PI.imp (PI.or (pi_list he) (pi_tup he)) fun σ H R ⟨H0, Z0, env, Z, out, h, s, p⟩ => ?_
  unfold iSeq at h
  rcases bnd_cases h with ⟨c, ds, q1, q2⟩ | ⟨r, q1, q2⟩
  · exact .inl ⟨H0, Z0, env, Z, _, q1, s, fun r q => (nomatch q), fun c' ds' q cls d Z' H' e x => by cases q; exact p.ex _ _ q2 cls d Z' H' e x⟩
  · rcases bnd_cases q2 with ⟨c, ds, q3, q4⟩ | ⟨d, q3, q4⟩
    · cases r <;> cases q3
    · cases d with
      | lst ds =>
        cases q4
        refine .inl ⟨H0, Z0, env, Z, _, q1, s, fun r' q v Z' H' x rr => ?_, fun c' ds' q => (nomatch q)⟩
        cases q
        obtain ⟨Z2, x2, _, rd⟩ := rr.freeze q3 x
        simp only [Rep] at rd
        obtain ⟨q, vs, rfl, g1, g2⟩ := rd
        exact ⟨q, rfl, ⟨vs, x2.zh.seqL g1⟩, p.ok _ rfl _ Z2 H' x2 (itD_list g1 g2)⟩
      | tup ds =>
        cases q4
        refine .inr ⟨H0, Z0, env, Z, _, q1, s, fun r' q v Z' H' x rr => ?_, fun c' ds' q => (nomatch q)⟩
        cases q
        obtain ⟨Z2, x2, _, rd⟩ := rr.freeze q3 x
        simp only [Rep] at rd
        obtain ⟨q, vs, rfl, g1, g2⟩ := rd
        exact ⟨q, rfl, ⟨vs, x2.zh.seqT g1⟩, p.ok _ rfl _ Z2 H' x2 (itD_tup g1 g2)⟩
      | _ => cases q4
theorem pdi_rng1 (hm : X.mg "range" = none) (ha : PD X T W a fa) (hg : Gl X "range" := by rfl) (hs : starEach [a] X.env = [(false, eval a X.env)] := by rfl) : PDI X T W tg (.Call (.Name "range" p) [a] [] pos) (iRng1 fa) := by
  refine PI.imp (pi_range1 hg hm (pa_cons ha pa_nil hs) hs) fun σ H R ⟨H0, Z0, env, Z, out, h, s, p⟩ => ?_
  refine tD_bndI h s p fun r v Z1 H1 hk e1 rr s1 p1 => ?_
  obtain ⟨n, en, hk'⟩ := asI_inv hk
  subst en
  split at hk'
  · rename_i ho
    cases hk'
    simp only [RRep, Rep] at rr
    subst rr
    exact ⟨n, rfl, (rOk_iff ho).1, (rOk_iff ho).2, p1.ok _ rfl _ Z1 H1 (Ext4.refl e1.zh) itD_rng⟩
  · cases hk'
theorem pdi_rngD {jj : Nat} {p1 p2 : Pos} (hm : X.mg "range" = none) (ha : PD X T W a fa) (hb : PD X T W b fb) (hg : Gl X "range" := by rfl)
    (hs : starEach [a, b, .UnaryOp .USub (.Constant (.int 1) jj p1) p2] X.env = (false, eval a X.env) :: starEach [b, .UnaryOp .USub (.Constant (.int 1) jj p1) p2] X.env := by rfl)
    (hs2 : starEach [b, .UnaryOp .USub (.Constant (.int 1) jj p1) p2] X.env = (false, eval b X.env) :: starEach [.UnaryOp .USub (.Constant (.int 1) jj p1) p2] X.env := by rfl)
    (hpl : (backTo pos (starEach [b, .UnaryOp .USub (.Constant (.int 1) jj p1) p2] X.env)).any (·.1) = false := by rfl) :
    PDI X T W tg (.Call (.Name "range" p) [a, b, .UnaryOp .USub (.Constant (.int 1) jj p1) p2] [] pos) (iRngD fa fb) := by
  refine PI.imp (pi_range3 hg hm (pa_cons ha (pa_cons hb (pa_cons (pe_un un_neg (pe_int)) pa_nil (by rfl)) hs2) hs) hs hpl) fun σ H R ⟨H0, Z0, env, Z, out, h, s, p⟩ => ?_
  refine tD_bndI h s p fun r v Z1 H1 hk e1 rr s1 p1 => ?_
  refine tD_bndI hk s1 p1 fun r2 v2 Z2 H2 hk2 e2 rr2 s2 p2 => ?_
  obtain ⟨a, ea, hk3⟩ := asI_inv hk2
  obtain ⟨b, eb, hk4⟩ := asI_inv hk3
  subst ea eb
  split at hk4
  · rename_i ho
    rw [Bool.and_eq_true] at ho
    cases hk4
    simp only [RRep, Rep] at rr rr2
    subst rr rr2
    have o1 := rOk_iff ho.1
    have o2 := rOk_iff ho.2
    exact ⟨1, rfl, a, b, -1, _, rfl, RgC.neg (by omega) (by omega) (by omega) (by omega), p2.ok _ rfl _ Z2 H2 (Ext4.refl e2.zh) itD_rngC⟩
  · cases hk4
end
def forD (gt : GT) (body : FS) : List Dt → PEnv → Option Out
  | [], ρ => some (.nx ρ)
  | d :: ds, ρ => match gt d ρ with
    | none => none
    | some ρ1 => match body ρ1 with
      | some (.nx ρ2) => forD gt body ds ρ2
      | some (.ct ρ2) => forD gt body ds ρ2
      | some (.bk ρ2) => some (.nx ρ2)
      | o => o
def sFor (g : FIt) (gt : GT) (body : FS) : FS := fun ρ => bndS ρ (g ρ) fun ds => forD gt body ds ρ
theorem SI.up {K : PySem.W.Frag} {T : Tab} {H0 Z1 H1 : Hp} {Z0 : Hx} {env : PEnv} {σ : St} (s : SI K T H0 Z0 env σ Z1 H1) : SI K T H0 (Z1, Z0.2) env σ Z1 H1 :=
  ⟨⟨s.ext.hh, Le.refl _, s.ext.zh, fun _ _ => rfl⟩, s.len, s.cell, s.sep, s.me⟩
theorem SI.down {K : PySem.W.Frag} {T : Tab} {H0 Z1 H1 Z H : Hp} {Z0 : Hx} {env : PEnv} {σ : St} (b : Ext4 Z0.1 H0 Z1 H1) (s : SI K T H0 (Z1, Z0.2) env σ Z H) : SI K T H0 Z0 env σ Z H :=
  ⟨⟨s.ext.hh, b.zz.trans s.ext.zz, s.ext.zh, fun a h => (s.ext.st a h).trans (b.st a h)⟩, s.len, s.cell, s.sep, s.me⟩
theorem Ext4.down {H0 Z0 Z1 H1 Z H : Hp} (b : Ext4 Z0 H0 Z1 H1) (s : Ext4 Z1 H0 Z H) : Ext4 Z0 H0 Z H := ⟨s.hh, b.zz.trans s.zz, s.zh, fun a h => (s.st a h).trans (b.st a h)⟩
section
variable {X : Cx} {T : Tab} {W : WX} {tg iter : Expr} {g : FIt} {gt : GT} {tgr : TG} {body : List Stmt} {F : FS} {pos : Pos} {vs : List Nat}
theorem pds_for (hp : PassesOwn (model X.prog X.w) X.A X.env X.xe) (hc : X.calm = true) (hi : PDI X T W tg iter g) (hg : PG X tg tgr) (ht : TgD X.K T tgr gt vs) (hb : PDSs X T W body F) (hs : ∀ x, foldedSetIterable iter X.env x = pure x := by intro _; rfl) :
    PDS X T W (.For tg iter body [] pos) (sFor g gt F) := by
  refine PS.imp (ps_for hp hc hi hg hb hs) fun D σ H ⟨H0, Z0, env, Z, out, h, s, p⟩ => ?_
  unfold sFor at h
  show tDI X.K T W g σ H _
  rcases bndS_cases h with ⟨c, ds, e1, e2⟩ | ⟨ds, e1, e2⟩
  · exact ⟨H0, Z0, env, Z, _, e1, s, fun r q => (nomatch q), fun c' ds' q cls d Z' H' e x => by cases q; exact p.xc _ _ _ e2 cls d σ Z' H' (s.step e) x⟩
  · refine ⟨H0, Z0, env, Z, _, e1, s, fun ds' q J Z1 H1 x1 it => ?_, fun c' ds' q => (nomatch q)⟩
    cases q
    have b1 : Ext4 Z0.1 H0 Z1 H1 := s.ext.trans x1
    refine ⟨fun i m σ' H' => ∃ env' Z', i ≤ ds.length ∧ m = ds.length - i ∧ SI X.K T H0 (Z1, Z0.2) env' σ' Z' H' ∧ forD gt F (ds.drop i) env' = some out, ⟨_, env, Z1, Nat.zero_le _, rfl, (s.step x1).up, e2⟩, ?_⟩
    rintro i m σ' H' ⟨env', Z', hi', rfl, s', hf⟩
    have l' : Le Z1 Z' := s'.ext.zz
    by_cases hlt : i < ds.length
    · obtain ⟨go, yl⟩ := it.1 i ds[i] Z' H' l' s'.zh (by simp [hlt])
      rw [List.drop_eq_getElem_cons hlt] at hf
      unfold forD at hf
      split at hf
      · cases hf
      · rename_i ρ1 hρ1
        refine .inr ⟨go, fun σ2 H2 => ∃ env2 Z2, SI X.K T H0 (Z1, Z0.2) env2 σ2 Z2 H2 ∧ forD gt F (ds.drop (i + 1)) env2 = some out, fun σ2 H2 ⟨env2, Z2, a1, a3⟩ => ⟨_, by omega, env2, Z2, hlt, rfl, a1, a3⟩, fun x H2 y => ?_⟩
        obtain ⟨Z2, x2, rd⟩ := yl x H2 y
        refine ht H0 (Z1, Z0.2) env' ρ1 σ' Z2 H2 _ x _ hρ1 rd (s'.step x2) fun σ3 s3 _ => ?_
        -- the body
        cases hF : F ρ1 with
        | none => rw [hF] at hf; cases hf
        | some o =>
          rw [hF] at hf
          refine ⟨H0, (Z1, Z0.2), ρ1, Z2, o, hF, s3, fun env4 e σ4 Z4 H4 s4 => ?_, fun r e v Z4 H4 x4 r4 => ?_, fun env4 e σ4 Z4 H4 s4 => ?_, fun env4 e σ4 Z4 H4 s4 => ?_, fun c es env4 e cls d σ4 Z4 H4 s4 xr => ?_⟩
          · subst e; exact ⟨env4, Z4, s4, hf⟩
          · subst e; cases hf; exact p.rt _ rfl v Z4 H4 (b1.down x4) r4
          · subst e; cases hf; exact p.nx _ rfl σ4 Z4 H4 (s4.down b1)
          · subst e; exact ⟨env4, Z4, s4, hf⟩
          · subst e; cases hf; exact p.xc _ _ _ rfl cls d σ4 Z4 H4 (s4.down b1) xr
    · have e : i = ds.length := by omega
      subst e
      rw [List.drop_length] at hf
      cases hf
      exact .inl ⟨it.2 _ Z' H' l' s'.zh (Nat.le_refl _), p.nx _ rfl σ' Z' H' (s'.down b1)⟩
end
def whileD (t : FT) (body : FS) : Nat → PEnv → Option Out
  | 0, _ => none
  | m + 1, ρ => bndS ρ (t ρ) fun b => if b then match body ρ with
      | some (.nx ρ2) => whileD t body m ρ2
      | some (.ct ρ2) => whileD t body m ρ2
      | some (.bk ρ2) => some (.nx ρ2)
      | o => o
    else some (.nx ρ)
open Classical in
noncomputable def sWhile (t : FT) (body : FS) : FS := fun ρ => if h : ∃ m o, whileD t body m ρ = some o then some (Classical.choose (Classical.choose_spec h)) else none
theorem whileD_more {t : FT} {body : FS} : ∀ {m : Nat} {ρ : PEnv} {o : Out}, whileD t body m ρ = some o → ∀ k, whileD t body (m + k) ρ = some o
  | 0, _, _, h, _ => by cases h
  | m + 1, ρ, o, h, k => by
    have e : m + 1 + k = (m + k) + 1 := by omega
    rw [e]
    unfold whileD at h ⊢
    rcases bndS_cases h with ⟨c, ds, e1, e2⟩ | ⟨b, e1, e2⟩
    · rw [e1]; exact congrArg some e2.symm
    · rw [e1]
      show (if b then _ else _) = _
      cases b with
      | false => exact e2
      | true =>
        simp only [if_true] at e2 ⊢
        cases hb : body ρ with
        | none => rw [hb] at e2; cases e2
        | some q =>
          rw [hb] at e2
          cases q with
          | nx ρ2 => exact whileD_more (m := m) e2 k
          | ct ρ2 => exact whileD_more (m := m) e2 k
          | bk ρ2 => exact e2
          | rt r => exact e2
          | xc c ds e => exact e2
theorem sWhile_of {t : FT} {body : FS} {m : Nat} {ρ : PEnv} {o : Out} (h : whileD t body m ρ = some o) : sWhile t body ρ = some o := by
  have hex : ∃ m o, whileD t body m ρ = some o := ⟨m, o, h⟩
  unfold sWhile
  rw [dif_pos hex]
  have sp := Classical.choose_spec (Classical.choose_spec hex)
  have a := whileD_more sp m
  have b := whileD_more h (Classical.choose hex)
  rw [Nat.add_comm] at b
  rw [a] at b
  exact b
theorem sWhile_inv {t : FT} {body : FS} {ρ : PEnv} {o : Out} (h : sWhile t body ρ = some o) : ∃ m, whileD t body m ρ = some o := by
  unfold sWhile at h
  split at h
  · rename_i hex
    have sp := Classical.choose_spec (Classical.choose_spec hex)
    exact ⟨_, by rw [sp]; exact h⟩
  · cases h
section
variable {X : Cx} {T : Tab} {W : WX} {c : Expr} {t : FT} {body : List Stmt} {F : FS} {pos : Pos}
theorem pds_while (hp : PassesOwn (model X.prog X.w) X.A X.env X.xe) (hc : PDT X T W c t) (hb : PDSs X T W body F) : PDS X T W (.While c body [] pos) (sWhile t F) := by
  refine PS.imp (ps_while hp hc hb) fun D σ H ⟨H0, Z0, env, Z, out, h, s, p⟩ => ?_
  obtain ⟨m0, h⟩ := sWhile_inv h
  refine ⟨fun m σ' H' => ∃ env' Z', SI X.K T H0 Z0 env' σ' Z' H' ∧ whileD t F m env' = some out, ⟨m0, env, Z, s, h⟩, ?_⟩
  rintro m σ' H' ⟨env', Z', s', hf⟩
  cases m with
  | zero => cases hf
  | succ m =>
    unfold whileD at hf
    refine tDT_bndS hf s' p fun b Z1 H1 hk e1 s1 => ?_
    cases b with
    | false => cases hk; exact iteF (p.nx _ rfl σ' Z1 H1 s1)
    | true =>
      refine iteT ⟨fun σ2 H2 => ∃ env2 Z2, SI X.K T H0 Z0 env2 σ2 Z2 H2 ∧ whileD t F m env2 = some out, fun σ2 H2 ⟨env2, Z2, a1, a2⟩ => ⟨m, Nat.lt_succ_self _, env2, Z2, a1, a2⟩, ?_⟩
      simp only [if_true] at hk
      cases hF : F env' with
      | none => rw [hF] at hk; cases hk
      | some o =>
        rw [hF] at hk
        refine ⟨H0, Z0, env', Z1, o, hF, s1, fun env4 e σ4 Z4 H4 s4 => ?_, fun r e v Z4 H4 x4 r4 => ?_, fun env4 e σ4 Z4 H4 s4 => ?_, fun env4 e σ4 Z4 H4 s4 => ?_, fun c es env4 e cls d σ4 Z4 H4 s4 xr => ?_⟩
        · subst e; exact ⟨env4, Z4, s4, hk⟩
        · subst e; cases hk; exact p.rt _ rfl v Z4 H4 x4 r4
        · subst e; cases hk; exact p.nx _ rfl σ4 Z4 H4 s4
        · subst e; exact ⟨env4, Z4, s4, hk⟩
        · subst e; cases hk; exact p.xc _ _ _ rfl cls d σ4 Z4 H4 s4 xr
end
def wipeE (ρ : PEnv) : List Nat → PEnv
  | [] => ρ
  | v :: vs => (wipeE ρ vs).set v none
theorem SI.setNone {K : PySem.W.Frag} {T : Tab} {H0 Z H : Hp} {Z0 : Hx} {env : PEnv} {σ : St} (s : SI K T H0 Z0 env σ Z H) (i : Nat) : SI K T H0 Z0 (env.set i none) (σ.set i none) Z H := by
  have at_ : ∀ (j : Nat) (c : Cel), (env.set i none)[j]? = some (some c) → i ≠ j ∧ env[j]? = some (some c) := fun j c h => by
    by_cases e : i = j
    · subst e
      by_cases hl : i < env.length
      · rw [List.getElem?_set_self hl] at h; cases h
      · rw [List.getElem?_eq_none (by simpa using hl)] at h; cases h
    · rw [List.getElem?_set_ne e] at h; exact ⟨e, h⟩
  have own_ : ∀ j : Nat, isOwnC ((env.set i none)[j]?) → i ≠ j ∧ isOwnC env[j]? := fun j h => by
    by_cases e : i = j
    · subst e
      by_cases hl : i < env.length
      · rw [List.getElem?_set_self hl] at h; exact h.elim
      · rw [List.getElem?_eq_none (by simpa using hl)] at h; exact h.elim
    · rw [List.getElem?_set_ne e] at h; exact ⟨e, h⟩
  refine ⟨s.ext, by simp [s.len], fun j c h => ?_, fun j k v hjk h1 h2 h3 h4 => ?_, fun j c ds v h h' => ?_⟩
  · obtain ⟨e, h⟩ := at_ j c h
    obtain ⟨v, g1, g2⟩ := s.cell j c h
    exact ⟨v, by rw [List.getElem?_set_ne e]; exact g1, g2⟩
  · obtain ⟨e1, h1⟩ := own_ j h1
    obtain ⟨e2, h2⟩ := own_ k h2
    rw [List.getElem?_set_ne e1] at h3
    rw [List.getElem?_set_ne e2] at h4
    exact s.sep j k v hjk h1 h2 h3 h4
  · obtain ⟨e, h⟩ := at_ j _ h
    rw [List.getElem?_set_ne e] at h'
    exact s.me j _ _ _ h h'
theorem SI.wipe {K : PySem.W.Frag} {T : Tab} {H0 Z H : Hp} {Z0 : Hx} {env : PEnv} {σ : St} (s : SI K T H0 Z0 env σ Z H) : ∀ vs : List Nat, SI K T H0 Z0 (wipeE env vs) (L2.wipe σ vs) Z H
  | [] => s
  | v :: vs => (s.wipe vs).setNone v
theorem wipe_idem {σ : St} : ∀ vs : List Nat, L2.wipe (L2.wipe σ vs) vs = L2.wipe σ vs := fun vs => by
  have set_none : ∀ (ws : List Nat) (i : Nat) (τ : St), i ∈ ws → (L2.wipe τ ws).set i none = L2.wipe τ ws := by
    intro ws
    induction ws with
    | nil => intro i τ h; simp at h
    | cons w ws ih =>
      intro i τ h
      show ((L2.wipe τ ws).set w none).set i none = (L2.wipe τ ws).set w none
      by_cases e : w = i
      · subst e; rw [List.set_set]
      · rw [List.set_comm _ _ e, ih i τ (by rcases List.mem_cons.mp h with z | z; exact absurd z.symm e; exact z)]
  have gen : ∀ (ws us : List Nat), (∀ w ∈ ws, w ∈ us) → L2.wipe (L2.wipe σ us) ws = L2.wipe σ us := by
    intro ws
    induction ws with
    | nil => intro us _; rfl
    | cons w ws ih =>
      intro us h
      show (L2.wipe (L2.wipe σ us) ws).set w none = _
      rw [ih us fun z hz => h z (List.mem_cons_of_mem _ hz), set_none us w σ (h w (by simp))]
  exact gen vs vs fun _ h => h
def lcD (gt : GT) (ct : FT) (elt : FE) (ρ : PEnv) : List Dt → Option (List Dt)
  | [] => some []
  | d :: ds => match gt d ρ with
    | none => none
    | some ρ1 => match ct ρ1 with
      | some (.ok true) => match bnd (elt ρ1) frz with
        | some (.ok e) => (lcD gt ct elt ρ ds).map (e :: ·)
        | _ => none
      | some (.ok false) => lcD gt ct elt ρ ds
      | _ => none
def eLc (vs : List Nat) (g : FIt) (gt : GT) (ct : FT) (elt : FE) : FE := fun ρ => bnd (g ρ) fun ds => match lcD gt ct elt (wipeE ρ vs) ds with
  | some es => if ds.length ≤ LINE then some (.ok (.own es)) else none
  | none => none
abbrev PDTs (X : Cx) (T : Tab) (W : WX) (ifs : List Expr) (f : FT) : Prop := PTs X ifs (tDT X.K T W f)
def tTrue : FT := fun _ => some (.ok true)
abbrev W0 : WX := fun _ _ _ _ => False
theorem takes_W0 {X : Cx} : Takes X W0 := fun u s' ⟨_, _, _, _, _, _, _, _, _, _, _, _, _, _, _, _, w⟩ => w.elim
theorem pdts_nil {X : Cx} {T : Tab} {W : WX} : PDTs X T W [] tTrue := ⟨fun pins s σ H Q I ⟨H0, Z0, env, Z, out, h, s0, p⟩ => by
  cases h
  exact pts_nil.run pins s σ H Q I (p.ok _ rfl Z H (Ext4.refl s0.zh))⟩
theorem lc_of {K : PySem.W.Frag} {T : Tab} {W : WX} {vs : List Nat} {g : FIt} {gt : GT} {ct : FT} {elt : FE} {tgr : TG} (ht : TgD K T tgr gt vs) {σ : St} {H : Hp} {Q : VK} (q : tD K T W (eLc vs g gt ct elt) σ H Q) :
    tLc (tDI K T W g) tgr (tDT K T W0 ct) (tD K T W0 elt) vs σ H Q := by
  obtain ⟨H0, Z0, env, Z, out, h, s, p⟩ := q
  unfold eLc at h
  show tDI K T W g σ H _
  rcases bnd_cases h with ⟨c, ds, e1, e2⟩ | ⟨ds, e1, e2⟩
  · exact ⟨H0, Z0, env, Z, _, e1, s, fun r q => (nomatch q), fun c' ds' q cls d Z' H' e x => by cases q; exact p.ex _ _ e2 cls d Z' H' e x⟩
  · refine ⟨H0, Z0, env, Z, _, e1, s, fun ds' q J Z1 H1 x1 it => ?_, fun c' ds' q => (nomatch q)⟩
    cases q
    split at e2
    · rename_i es hes
      split at e2
      · rename_i hline
        cases e2
        intro Da hD
        have s1 := (s.step x1).wipe vs
        have zD : Z1 Da = none := x1.zh.free hD
        refine ⟨fun i m H' => ∃ Z' acc done, i ≤ ds.length ∧ m = ds.length - i ∧ Ext4 Z1 H1 Z' H' ∧ H' Da = some (.lst acc) ∧ Z' Da = none ∧ Reps K T Z' done acc ∧ done.length ≤ i ∧ (lcD gt ct elt (wipeE env vs) (ds.drop i)).map (done ++ ·) = some es,
          ⟨_, Z1, [], [], Nat.zero_le _, rfl, Ext4.new x1.zh hD, upd_same, zD, .nil, Nat.le_refl _, by rw [List.drop_zero, hes]; rfl⟩, ?_⟩
        rintro i m H' ⟨Z', acc, done, hi', rfl, x', hD', zD', rs, hdl, hf⟩
        have s' := s1.step x'
        by_cases hlt : i < ds.length
        · obtain ⟨go, yl⟩ := it.1 i ds[i] Z' H' x'.zz x'.zh (by simp [hlt])
          rw [List.drop_eq_getElem_cons hlt] at hf
          refine .inr ⟨go, fun H2 => ∃ Z2 acc done, Ext4 Z1 H1 Z2 H2 ∧ H2 Da = some (.lst acc) ∧ Z2 Da = none ∧ Reps K T Z2 done acc ∧ done.length ≤ i + 1 ∧ (lcD gt ct elt (wipeE env vs) (ds.drop (i + 1))).map (done ++ ·) = some es,
            fun H2 ⟨Z2, acc, done, a1, a2, a3, a4, a5, a6⟩ => ⟨_, by omega, Z2, acc, done, hlt, rfl, a1, a2, a3, a4, a5, a6⟩, fun x H2 y => ?_⟩
          obtain ⟨Z2, x2, rd⟩ := yl x H2 y
          unfold lcD at hf
          split at hf
          · cases hf
          · rename_i ρ1 hρ1
            refine ht H0 Z0 _ ρ1 _ Z2 H2 _ x _ hρ1 rd (s'.step x2) fun σ3 s3 hw => ?_
            refine ⟨by rw [hw, wipe_idem], ?_⟩
            have x2' := x'.trans x2
            have hD2 : H2 Da = some (.lst acc) := x2.hh _ _ hD'
            have zD2 : Z2 Da = none := by rw [x2.st Da (by rw [hD']; simp)]; exact zD'
            split at hf
            · rename_i hct
              refine ⟨H0, Z0, ρ1, Z2, _, hct, s3, fun b q Z3 H3 x3 => ?_, fun c es q => (nomatch q)⟩
              cases q
              refine iteT ?_
              split at hf
              · rename_i e he
                rcases bnd_cases he with ⟨c, es', w1, w2⟩ | ⟨r, w1, w2⟩
                · cases w2
                · refine ⟨H0, Z0, ρ1, Z3, _, w1, s3.step x3, fun r' q v Z4 H4 x4 rr => ?_, fun c es q => (nomatch q)⟩
                  cases q
                  obtain ⟨Z5, x5, _, rd5⟩ := rr.freeze w2 x4
                  have hD3 : H3 Da = some (.lst acc) := x3.hh _ _ hD2
                  have zD3 : Z3 Da = none := by rw [x3.st Da (by rw [hD2]; simp)]; exact zD2
                  have hD5 : H4 Da = some (.lst acc) := x5.hh _ _ hD3
                  have zD5 : Z5 Da = none := by rw [x5.st Da (by rw [hD3]; simp)]; exact zD3
                  have x25 := (x2'.trans x3).trans x5
                  have l25 : Le Z' Z5 := x2.zz.trans (x3.zz.trans x5.zz)
                  refine ⟨acc, hD5, ?_, Z5, acc ++ [v], done ++ [e], ⟨fun a o h => ?_, x25.zz, fun a o h => ?_, x25.st⟩, upd_same, zD5, (rs.mono l25).append (.cons rd5 .nil), by rw [List.length_append, List.length_singleton]; omega, ?_⟩
                  · rw [rs.length]
                    have : ds.length ≤ sizeLine := line_of hline
                    omega
                  · have ne : a ≠ Da := fun z => by subst z; rw [hD] at h; cases h
                    rw [upd_ne ne]; exact x25.hh _ _ h
                  · have ne : a ≠ Da := fun z => by subst z; rw [zD5] at h; cases h
                    rw [upd_ne ne]; exact x25.zh _ _ h
                  · rw [← hf, Option.map_map]
                    congr 1
                    funext l
                    simp
              · cases hf
            · rename_i hct
              refine ⟨H0, Z0, ρ1, Z2, _, hct, s3, fun b q Z3 H3 x3 => ?_, fun c es q => (nomatch q)⟩
              cases q
              have hD3 : H3 Da = some (.lst acc) := x3.hh _ _ hD2
              have zD3 : Z3 Da = none := by rw [x3.st Da (by rw [hD2]; simp)]; exact zD2
              exact iteF ⟨Z3, acc, done, x2'.trans x3, hD3, zD3, rs.mono (x2.zz.trans x3.zz), by omega, hf⟩
            · cases hf
        · have e : i = ds.length := by omega
          subst e
          rw [List.drop_length] at hf
          have he : done = es := by
            unfold lcD at hf
            simpa using hf
          subst he
          refine .inl ⟨it.2 _ Z' H' x'.zz x'.zh (Nat.le_refl _), ?_⟩
          exact p.ok _ rfl _ Z' H' (x1.trans x') ⟨Da, acc, rfl, x1.hh.free hD, hD', zD', rs⟩
      · cases e2
    · cases e2
section
variable {X : Cx} {T : Tab} {W : WX} {elt tg iter : Expr} {ifs : List Expr} {scope : Scope} {own : List (Str × Nat)} {pos spos py : Pos} {g : FIt} {gt : GT} {ct : FT} {f : FE} {tgr : TG}
theorem pd_lc (hc : X.calm = true) (hN : X.N.Nodup) (hi : PDI X T W tg iter g) (ok : BlkOk X.N X.env.scope scope own) (ht : TgD X.K T tgr gt (own.map (·.2)))
    (hg : ∀ (s : Shared) (H : Hp) (C : Addr) (cl : List (Str × Addr)) (fp : List Addr), PG (X.blk s H scope (compEnvC scope cl C X.env) fp) tg tgr)
    (hif : ∀ (s : Shared) (H : Hp) (C : Addr) (cl : List (Str × Addr)) (fp : List Addr), PDTs (X.blk s H scope (compEnvC scope cl C X.env) fp) T W0 ifs ct)
    (he : ∀ (s : Shared) (H : Hp) (C : Addr) (cl : List (Str × Addr)) (fp : List Addr), PD (X.blk s H scope (compEnvC scope cl C X.env) fp) T W0 elt f) (hs : ∀ x, foldedSetIterable iter X.env x = pure x := by intro _; rfl) :
    PD X T W (.ListComp elt [⟨tg, iter, ifs, 0⟩] scope pos) (eLc (own.map (·.2)) g gt ct f) :=
  PE.imp (pe_lc hc hN hi ok hg hif he hs) fun _ _ _ q => lc_of ht q
theorem pds_setLc {i : Nat} {y : Str} (hc : X.calm = true) (hN : X.N.Nodup) (hy : X.N[i]? = some y) (hyl : X.env.scope.names.lookup y = some .local)
    (hsw : swapsWith (.ListComp elt [⟨tg, iter, ifs, 0⟩] scope pos) (some (.Name y py)) spos.line X.env = pure true) (hi : PDI X T W tg iter g) (ok : BlkOk X.N X.env.scope scope own) (ht : TgD X.K T tgr gt (own.map (·.2)))
    (hg : ∀ (s : Shared) (H : Hp) (C : Addr) (cl : List (Str × Addr)) (fp : List Addr), PG (X.blk s H scope (compEnvC scope cl C X.env) fp) tg tgr)
    (hif : ∀ (s : Shared) (H : Hp) (C : Addr) (cl : List (Str × Addr)) (fp : List Addr), PDTs (X.blk s H scope (compEnvC scope cl C X.env) fp) T W0 ifs ct)
    (he : ∀ (s : Shared) (H : Hp) (C : Addr) (cl : List (Str × Addr)) (fp : List Addr), PD (X.blk s H scope (compEnvC scope cl C X.env) fp) T W0 elt f) (hs : ∀ x, foldedSetIterable iter X.env x = pure x := by intro _; rfl) :
    PDS X T W (.Assign [.Name y py] (.ListComp elt [⟨tg, iter, ifs, 0⟩] scope pos) spos) (sSet i (eLc (own.map (·.2)) g gt ct f)) := by
  refine PS.imp (ps_setLc (te := tD X.K T W0 f) (tt := tDT X.K T W0 ct) hc hN hy hyl hsw hi ok hg hif he hs) fun D σ H ⟨H0, Z0, env, Z, out, h, s, p⟩ => ?_
  refine lc_of ht (tD_bndS h s p fun r v Z1 H1 hk e1 rr s1 => ?_)
  cases r with
  | fro d => cases hk; exact p.nx _ rfl _ Z1 H1 (s1.setFro rr)
  | own ds =>
    cases hk
    obtain ⟨q, vs, rfl, b, hq, zq, rs⟩ := rr
    refine p.nx _ rfl _ Z1 H1 (s1.setOwn (ds := ds) ⟨q, vs, rfl, s.ext.hh.free b, hq, zq, rs⟩ fun j hj hσ => ?_)
    obtain ⟨q', o, e', h', _⟩ := s.ownAt hj hσ
    cases e'
    rw [h'] at b; cases b
  | bor ds => cases hk
end
end Pd
set_option maxHeartbeats 2000000
namespace Pd
open PySem PySem.Spec L2
section
variable {K : PySem.W.Frag} {T : Tab} {x qual : Str} {params : Arguments} {body : List Stmt} {scope : Scope} {dvs : List V} {kws : List (Str × V)} {f : Addr} {fd : FuncData} {ps : List Str} {n : Nat}
theorem kbn_pos (F : FunD K x qual params body scope [] kws f fd) (hn : ps.length = n)
    (h : ∀ (kV doc pm : Value) (an : Option Addr) (cdv ct : Value) (us : List Value), us.length = ps.length → bindArgs (PySem.W.fnOf x qual params body scope .none kV doc pm an cdv ct) ⟨us, []⟩ = pure (ps.zip us)) :
    KBn K fd ps n [] (fun us _ => us) (fun vs _ => vs) := by
  have B := FunD.bindsA F h
  refine ⟨fun s us ws _ l1 l2 => ?_, fun r _ => r⟩
  show BindsTo s fd ⟨us, []⟩ (ps.zip us)
  exact B s us (by rw [l1, hn])
theorem conv_pos (F : FunD K x qual params body scope [] kws f fd) (hn : ps.length = n)
    (h : ∀ (kV doc pm : Value) (an : Option Addr) (cdv ct : Value) (us : List Value), us.length = ps.length → bindArgs (PySem.W.fnOf x qual params body scope .none kV doc pm an cdv ct) ⟨us, []⟩ = pure (ps.zip us)) :
    Conv K T fd ps n [] (fun ds _ => ds) := ⟨_, _, kbn_pos F hn h, fun _ _ _ _ _ _ _ r _ => r⟩
theorem convI_pos (F : FunD K x qual params body scope [] kws f fd) (hn : ps.length = n + 1)
    (h : ∀ (kV doc pm : Value) (an : Option Addr) (cdv ct : Value) (us : List Value), us.length = ps.length → bindArgs (PySem.W.fnOf x qual params body scope .none kV doc pm an cdv ct) ⟨us, []⟩ = pure (ps.zip us)) :
    ConvI K T fd ps n [] (fun ds _ => ds) := ⟨_, _, kbn_pos F hn h, fun _ _ _ vs _ _ _ _ r _ => ⟨vs, rfl, r⟩⟩
theorem law_sp {fn : Fn} {H : Hp} {a : Addr} {ns : List Int} (hS : SqL K H a (ns.map V.int)) (h : fn [.lst (ns.map Dt.int)] = some (.ok (.fro (.bl true)))) : spD K T fn [.ref a] H (fun v _ => v = .bl true) (fun _ _ _ => False) := by
  refine ⟨H, [.lst (ns.map Dt.int)], _, Le.refl H, .cons ?_ .nil, h, fun r e v Z' H' _ rr => ?_, fun c es e => (nomatch e)⟩
  · simp only [Rep]
    exact ⟨a, _, rfl, hS, .ints⟩
  · cases e
    simpa only [RRep, Rep] using rr
end
theorem walk_end {l : PySem.W.OpenLaw} {m k : Nat} {q : Program} {loose : List Str} {XP : (Str → Option Value) → Heap → Prop} {YP : World → Heap → Prop} {d : DefRec} {x : Str}
    (hm : l.most = some m) (hm2 : m ≤ sizeLine) (hdf : d.params.defaults = []) (hr : Room k callerA)
    (F : ∀ (w : World) (mg : Str → Option Value) (fa : Addr) (h : Heap), YP w h → h.Ns mainGlobals mg → mg d.name = some (.ref fa) →
      ∃ (K : PySem.W.Frag) (T : Tab) (fd : FuncData) (fn : Fn), K.In h ∧ (∀ (s : Shared) (u : Value), BindsTo s fd ⟨[u], []⟩ [(x, u)]) ∧
        (∀ (ns : List Int), ns.length ≤ m → (∀ z ∈ ns, Builtin.Int.intBits z ≤ 1048576) → fn [.lst (ns.map Dt.int)] = some (.ok (.fro (.bl true)))) ∧
        ∀ base : Heap, K.In base → base.Ns mainGlobals mg → FnOk l.prog w K mg base (L2.CX l.prog w) k fa fd [x] (spD K T fn)) :
    PySem.W.WalkO q loose XP YP l.row.toRowW d [] (fun f vs => PySem.call f vs) := by
  refine Att.attach_callB hm hdf fun w s₀ s₁ mg mb fa o pm cd doc a vs ns Gr Y ho hd hcd hmg hobj hints hlen hbits hg => ?_
  obtain ⟨K, T, fd, fn, KX, hb, hsp, hF⟩ := F w mg fa _ Y Gr.T.g hmg
  refine law_call KX Gr.T.g Gr.T.b Gr.T.builtins Gr.T.nolimit hg hobj hints (Nat.le_trans hlen hm2) hr hF hb (fun H hO hS => law_sp hS (hsp ns hlen hbits)) fun H e s' hx => ?_
  obtain ⟨_, _, _, _, _, _, _, _, _, _, _, _, z⟩ := hx
  exact z
end Pd
set_option maxHeartbeats 2000000
namespace Pd
open PySem PySem.Spec L2
def eCa (n : Nat) (fn : Fn) (fa : FA) : FE := eCall n 0 (fun ds _ => fn ds) fa aNil
section
variable {X : Cx} {T : Tab} {W : WX} {k n : Nat} {fn : Fn} {x : Str} {p pos : Pos} {e : Expr} {es : List Expr} {fa : FA}
end
end Pd
set_option maxHeartbeats 2000000
namespace Pd
open PySem PySem.Spec L2
section
variable {K : PySem.W.Frag} {T : Tab} {x qual : Str} {params : Arguments} {body : List Stmt} {scope : Scope} {dvs : List V} {kws : List (Str × V)} {f : Addr} {fd : FuncData} {ps : List Str}
theorem kbn_dfl (F : FunD K x qual params body scope dvs kws f fd) (n j : Nat) (hd : dvs ≠ []) (hn : n + (dvs.length - j) = ps.length)
    (h : ∀ (T : Addr) (kV doc pm : Value) (an : Option Addr) (cdv ct : Value) (us its : List Value), us.length = n → its.length = dvs.length →
      ∃ k, bindArgs (PySem.W.fnOf x qual params body scope (.ref T) kV doc pm an cdv ct) ⟨us, []⟩ = seqItems? (.ref T) >>= k ∧ k (some its.toArray) = pure (ps.zip (us ++ its.drop j))) :
    ∃ ds, KBn K fd ps n [] (fun us _ => us ++ ds) (fun vs _ => vs ++ dvs.drop j) := by
  obtain ⟨ds, hv, hb⟩ := FunD.binds1 F n j hd hn h
  refine ⟨ds, fun s us ws k l1 l2 => ?_, fun r _ => r.append hv⟩
  show BindsTo s fd ⟨us, []⟩ (ps.zip (us ++ ds))
  refine hb s us k ?_
  have := hv.length
  rw [List.length_drop] at this
  rw [List.length_append]
  omega
theorem convI_dfl (F : FunD K x qual params body scope dvs kws f fd) (n j : Nat) (des : List Dt) (hr : ∀ Z, Reps K T Z des (dvs.drop j)) (hd : dvs ≠ []) (hn : n + 1 + (dvs.length - j) = ps.length)
    (h : ∀ (T : Addr) (kV doc pm : Value) (an : Option Addr) (cdv ct : Value) (us its : List Value), us.length = n + 1 → its.length = dvs.length →
      ∃ k, bindArgs (PySem.W.fnOf x qual params body scope (.ref T) kV doc pm an cdv ct) ⟨us, []⟩ = seqItems? (.ref T) >>= k ∧ k (some its.toArray) = pure (ps.zip (us ++ its.drop j))) :
    ConvI K T fd ps n [] (fun ds _ => ds ++ des) := by
  obtain ⟨ds, h⟩ := kbn_dfl F (n + 1) j hd hn h
  exact ⟨_, _, h, fun Z _ _ vs _ _ _ _ r _ => ⟨vs ++ dvs.drop j, rfl, r.append (hr Z)⟩⟩
end
structure ClsG (P : Program) (w : World) (K : PySem.W.Frag) (mg : Str → Option Value) (base : Heap) (T : Tab) (k : Nat) (x : Str) (c n : Nat) (gD : List Dt → List Dt) (fi : FI) : Prop where
  ex : ∃ f fd ps, mg x = some (.ref (T.ca c)) ∧ PySem.W.keepIn K (.ref (T.ca c)) = true ∧ Mk K (T.ca c) f ∧ ConvI K T fd ps n [] (fun ds _ => gD ds) ∧ FnOk P w K mg base (L2.CX P w) k f fd ps (spI K T c fi)
structure DefG (P : Program) (w : World) (K : PySem.W.Frag) (mg : Str → Option Value) (base : Heap) (T : Tab) (k : Nat) (x : Str) (n : Nat) (gD : List Dt → List Dt) (fn : Fn) : Prop where
  ex : ∃ f fd ps, mg x = some (.ref f) ∧ PySem.W.keepIn K (.ref f) = true ∧ Conv K T fd ps n [] (fun ds _ => gD ds) ∧ FnOk P w K mg base (L2.CX P w) k f fd ps (spD K T fn)
structure MethOk (P : Program) (w : World) (K : PySem.W.Frag) (mg : Str → Option Value) (base : Heap) (T : Tab) (k : Nat) (c : Nat) (m : Str) (n : Nat) (gD : List Dt → List Dt) (fn : Fn) : Prop where
  cls : ClsD K T c
  nofl : m ∉ T.fl c
  ex : ∃ f fd ps, Meth K (T.ca c) m f ∧ Conv K T fd ps n [] (fun ds _ => gD ds) ∧ FnOk P w K mg base (L2.CX P w) k f fd ps (spD K T fn)
section
variable {X : Cx} {T : Tab} {W : WX} {k n : Nat} {fn : Fn} {x : Str} {p pos : Pos} {e : Expr} {es : List Expr} {fa : FA}
theorem pd_callG {gD : List Dt → List Dt} (D : DefG X.prog X.w X.K X.mg X.base T k x n gD fn) (hr : Room k X.A) (tk : Takes X W) (ha : PDA X T W (e :: es) fa) (hg : Gl X x := by rfl)
    (hdb : (x == ("__debug__" : Str)) = false := by decide) (he : starEach (e :: es) X.env = (false, eval e X.env) :: starEach es X.env := by rfl) (hpl : (backTo pos (starEach es X.env)).any (·.1) = false := by rfl) :
    PD X T W (.Call (.Name x p) (e :: es) [] pos) (eCa n (fun ds => fn (gD ds)) fa) := by
  obtain ⟨f, fd, ps, hm, hk, hb, F⟩ := D.ex
  exact pd_callV (callV_fn F hr hb tk) hk hg hm ha hdb he hpl
theorem pd_callCG {c : Nat} {fi : FI} {gD : List Dt → List Dt} (D : ClsG X.prog X.w X.K X.mg X.base T k x c n gD fi) (hr : Room (k + 1) X.A) (tk : Takes X W) (ha : PDA X T W (e :: es) fa) (hg : Gl X x := by rfl)
    (hdb : (x == ("__debug__" : Str)) = false := by decide) (he : starEach (e :: es) X.env = (false, eval e X.env) :: starEach es X.env := by rfl) (hpl : (backTo pos (starEach es X.env)).any (·.1) = false := by rfl) :
    PD X T W (.Call (.Name x p) (e :: es) [] pos) (eCa n (fun ds => mkD c fi (gD ds)) fa) := by
  obtain ⟨f, fd, ps, hm, hk, M, hb, F⟩ := D.ex
  exact pd_callV (callV_make M F hr hb tk) hk hg hm ha hdb he hpl
end
def pickM (ms : Nat → Option Fn) : Rs → Option (Nat × List Dt × Fn)
  | .fro (.ins c ds) => match ms c with
    | some fn => some (c, ds, fn)
    | none => none
  | _ => none
def eMe (ms : Nat → Option Fn) (fo : FE) (fa : FA) : FE := fun ρ => bnd (fo ρ) fun x => match pickM ms x with
  | some (c, ds, fn) => bnd (fa ρ) fun as => fn (.ins c ds :: as)
  | none => none
theorem pickM_inv {ms : Nat → Option Fn} {x : Rs} {c : Nat} {ds : List Dt} {fn : Fn} (h : pickM ms x = some (c, ds, fn)) : x = .fro (.ins c ds) ∧ ms c = some fn := by
  unfold pickM at h
  split at h
  · split at h
    · cases h; exact ⟨rfl, by assumption⟩
    · cases h
  · cases h
section
variable {X : Cx} {T : Tab} {W : WX} {k : Nat} {ms : Nat → Option Fn} {m : Str} {o e : Expr} {es : List Expr} {apos pos : Pos} {fo : FE} {fa : FA}
def MethsOk (X : Cx) (T : Tab) (k : Nat) (m : Str) (n : Nat) (ms : Nat → Option Fn) : Prop :=
  ∀ c fn, ms c = some fn → ∃ gD fn0, MethOk X.prog X.w X.K X.mg X.base T k c m n gD fn0 ∧ fn = fun ds => if ds.length = n then fn0 (gD ds) else none
theorem meth_run {n : Nat} (D : MethsOk X T k m n ms) (hr : Room k X.A) (tk : Takes X W) {pins : List (Addr × Obj)} {s : Shared} {σ : St} {H Z : Hp} {us : List Value} {vs : List V} {c : Nat} {ds as : List Dt} {a : Addr} {fn : Fn} {out : Ex Rs} {Q : VK} (I : Inv X pins σ H s) (zh : Le Z H)
    (rx : Rep X.K T Z (.ins c ds) (.ref a)) (ru : Vals vs us) (rs : Reps X.K T Z as vs) (hm : ms c = some fn) (hf : fn (.ins c ds :: as) = some out) (p : Post X.K T Z H σ W Q out) :
    ∃ f, Meth X.K (T.ca c) m f ∧ wpAny (model X.prog X.w) X.A (call (.ref f) (.ref a :: us)) (EP X pins σ Q) X.xe s := by
  obtain ⟨gD, fn0, M, rfl⟩ := D c fn hm
  obtain ⟨f, fd, ps, Mf, hb, F⟩ := M.ex
  refine ⟨f, Mf, ?_⟩
  have hl : (Dt.ins c ds :: as).length = n := by
    dsimp only at hf
    split at hf
    · assumption
    · cases hf
  dsimp only at hf
  rw [if_pos hl] at hf
  exact callV_fn F hr hb tk pins s σ H Z (.ref a :: us) [] (.ref a :: vs) [] (.ins c ds :: as) [] out Q I zh (.cons rfl ru) .nil (.cons rx rs) .nil hl rfl hf p
theorem ins_of {K : PySem.W.Frag} {Z : Hp} {c : Nat} {ds : List Dt} {v : V} (h : Rep K T Z (.ins c ds) v) : ∃ a dx vs, v = .ref a ∧ Z a = some (.ins (T.ca c) dx ((T.fl c).zip vs)) := by
  simp only [Rep] at h
  obtain ⟨a, dx, vs, rfl, h1, _⟩ := h
  exact ⟨a, dx, vs, rfl, h1⟩
theorem tDA_of {K : PySem.W.Frag} {H0 Z H : Hp} {Z0 : Hx} {env : PEnv} {σ : St} {Q : VK} {out : Ex Rs} {G : List V → Hp → Prop} {kk : List Dt → M Rs} (h : bnd (fa env) kk = some out) (s : SI K T H0 Z0 env σ Z H) (p : Post K T Z H σ W Q out)
    (go : ∀ ds vs Z1 H1, kk ds = some out → Ext4 Z H Z1 H1 → Reps K T Z1 ds vs → G vs H1) : tDA K T W fa σ H G := by
  rcases bnd_cases h with ⟨c, ds, e1, e2⟩ | ⟨ds, e1, e2⟩
  · exact ⟨H0, Z0, env, Z, _, e1, s, fun r q => (nomatch q), fun c' ds' q cls d Z' H' e x => by cases q; exact p.ex _ _ e2 cls d Z' H' e x⟩
  · exact ⟨H0, Z0, env, Z, _, e1, s, fun ds' q vs Z1 H1 x1 rs => by cases q; exact go ds vs Z1 H1 e2 x1 rs, fun c' ds' q => (nomatch q)⟩
theorem pd_meth {pl : Sem Bool} (D : MethsOk X T k m ((e :: es).length + 1) ms) (hr : Room k X.A) (tk : Takes X W) (ho : PD X T W o fo) (ha : PDA X T W (e :: es) fa)
    (hst : starEach (e :: es) X.env = (false, eval e X.env) :: starEach es X.env := by rfl) (hpl : (backTo pos (starEach es X.env)).any (·.1) = false := by rfl)
    (ht : eval (.Call (.Attribute o m apos) (e :: es) [] pos) X.env = (do
      let ov ← eval o X.env
      standAt apos.atName
      let (g, first) ← holding [ov] (getMethod ov m pl)
      callWith pos g first (backTo pos (starEach (e :: es) X.env)) (backToKw pos (keywordEach [] X.env))) := by rfl) :
    PD X T W (.Call (.Attribute o m apos) (e :: es) [] pos) (eMe ms fo fa) := by
  refine ⟨fun pins s σ H Q I h => ?_⟩
  obtain ⟨H0, Z0, env, Z, out, h, s0, po⟩ := h
  refine PySem.W.methodCall_KW (pl := pl) (thn (ho.run pins s σ H (fun v H1 => ∃ c ds fn a Z1, Ext4 Z H Z1 H1 ∧ v = .ref a ∧ Rep X.K T Z1 (.ins c ds) (.ref a) ∧ bnd (fa env) (fun as => fn (.ins c ds :: as)) = some out ∧ ms c = some fn) I
    (tD_bnd h s0 po fun r v Z1 H1 hk x1 rr s1 p1 => ?_)) fun u s1 ⟨v, H1, I1, rv, c, ds, fn, a, Z1, x1, ev, rx, hk, hfn⟩ => ?_) ht
  · split at hk
    · rename_i c ds fn hp
      obtain ⟨rfl, hm⟩ := pickM_inv hp
      obtain ⟨a, dx, vs, rfl, _⟩ := ins_of (T := T) rr
      exact ⟨c, ds, fn, a, Z1, x1, rfl, rr, hk, hm⟩
    · cases hk
  · subst ev
    obtain rfl : u = Value.ref a := rv
    obtain ⟨gD, fn0, M, _⟩ := D c fn hfn
    obtain ⟨a', dx, vs, e, hz⟩ := ins_of (T := T) rx
    cases e
    obtain ⟨f, fd, ps, Mf, hb, F⟩ := M.ex
    refine getmeth_ok I1 (x1.zh _ _ hz) M.cls.cls Mf (lookup_no M.nofl) ?_
    refine PySem.W.callWith_K (first := [.ref a]) (h₀ := X.base) I1.ok.mod.kin Mf.kp (thn (ha.run pos pins s1 σ H1 (fun vs2 H2 => ∀ (s2 : Shared) (us : List Value), Inv X pins σ H2 s2 → Vals vs2 us → wpAny (model X.prog X.w) X.A (call (.ref f) (.ref a :: us)) (EP X pins σ Q) X.xe s2) I1 (tDA_of hk (s0.step x1) (po.step x1) fun as vs' Z2 H2 hk2 x2 rs => ?_)) fun us s2 ⟨vs2, H2, I2, r2, q2⟩ => ⟨I2.kIn, q2 s2 us I2 r2⟩) hst hpl
    intro s2 us I2 r2
    obtain ⟨f', Mf', go⟩ := meth_run D hr tk I2 x2.zh (rx.mono x2.zz) r2 rs hfn hk2 (po.step (x1.trans x2))
    have : f' = f := by
      have e1 := Mf.at_
      rw [Mf'.at_] at e1
      cases e1
      rfl
    subst this
    exact go
end
end Pd
set_option maxHeartbeats 2000000
namespace Pd
open PySem PySem.Spec L2
def okR : M Rs → M Rs
  | some (.ok r) => some (.ok r)
  | _ => none
def gAtt (m : Nat → Option Nat) (pr : Nat → Option Fn) : G1 := fun r => match r with
  | .fro (.ins c ds) => match m c with
    | some j => match ds[j]? with
      | some d => some (.ok (.fro d))
      | none => none
    | none => match pr c with
      | some fn => okR (fn [.ins c ds])
      | none => none
  | _ => none
theorem okR_inv {m : M Rs} {out : Ex Rs} (h : okR m = some out) : ∃ r, m = some (.ok r) ∧ out = .ok r := by
  unfold okR at h
  split at h
  · cases h; exact ⟨_, rfl, rfl⟩
  · cases h
structure PropOk (P : Program) (w : World) (K : PySem.W.Frag) (mg : Str → Option Value) (base : Heap) (T : Tab) (k : Nat) (c : Nat) (f : Str) (fn : Fn) : Prop where
  cls : ClsD K T c
  ex : ∃ p g fd ps, PropOf K (T.ca c) f p g ∧ Binds K fd ps [] ∧ FnOk P w K mg base (L2.CX P w) k g fd ps (spD K T fn)
section
variable {X : Cx} {T : Tab} {W : WX} {k : Nat} {e : Expr} {fa : FE} {f : Str} {pos : Pos}
theorem pd_att (m : Nat → Option Nat) (pr : Nat → Option Fn) (hm : ∀ c j, m c = some j → ClsD X.K T c ∧ (T.fl c)[j]? = some f) (hp : ∀ c fn, pr c = some fn → PropOk X.prog X.w X.K X.mg X.base T k c f fn) (hr : Room (k + 1) X.A) (he : PD X T W e fa)
    (hb : attributeBase e f X.env (eval e X.env) = eval e X.env := by rfl) : PD X T W (.Attribute e f pos) (e1 (gAtt m pr) fa) := by
  refine ⟨fun pins s σ H Q I h => ?_⟩
  obtain ⟨H0, Z0, env, Z, out, h, s0, po⟩ := h
  refine attr_of hb (thn (he.run pins s σ H (fun v H1 => ∃ r Z1, gAtt m pr r = some out ∧ Ext4 Z H Z1 H1 ∧ RRep X.K T H Z1 H1 v r) I (tD_bnd h s0 po fun r v Z1 H1 hk x1 rr s1 p1 => ⟨r, Z1, hk, x1, rr⟩)) fun u s1 ⟨v, H1, I1, rv, r, Z1, hk, x1, rr⟩ => ?_)
  have p1 := po.step x1
  unfold gAtt at hk
  split at hk
  · rename_i c ds
    simp only [RRep, Rep] at rr
    obtain ⟨a, dx, vs, rfl, h1, h2, h3⟩ := rr
    obtain rfl : u = Value.ref a := rv
    split at hk
    · rename_i j hj
      split at hk
      · rename_i d hd
        cases hk
        obtain ⟨C, hf⟩ := hm _ _ hj
        obtain ⟨w, h4, h5⟩ := h3.get hd
        exact getattr_ok I1 (x1.zh _ _ h1) C.cls (C.no _ (List.mem_of_getElem? hf)) (lookup_zip C.nd hf h4) fun u' s2 I2 ru => ⟨w, H1, I2, ru, p1.fro x1.zh h5⟩
      · cases hk
    · split at hk
      · rename_i fn hfn
        obtain ⟨r, e1, rfl⟩ := okR_inv hk
        have Pk := hp _ _ hfn
        obtain ⟨p, g, fd, ps, hpo, hb', F⟩ := Pk.ex
        have hsp : spD X.K T fn [.ref a] H1 Q (fun _ _ _ => False) := ⟨Z1, [.ins c ds], _, x1.zh, .cons (by simp only [Rep]; exact ⟨a, dx, vs, rfl, h1, h2, h3⟩) .nil, e1, fun r e => by cases e; exact p1.ok _ rfl, fun c es e => (nomatch e)⟩
        exact getprop_ok (dvs := []) (ds := []) I1 (x1.zh _ _ h1) Pk.cls.cls hpo F hr hb' .nil (fun _ _ _ _ _ _ _ hx => by
          obtain ⟨_, _, _, _, _, _, _, _, _, _, _, _, z⟩ := hx
          exact z) hsp
      · cases hk
  · cases hk
end
def gOwn (g : G2) (okD : Nat → Dt → Bool) (ops : Nat → Option Fn) : G2 := fun x y => match x with
  | .fro (.ins c ds) => match ops c with
    | some fn => match y with
      | .fro d => if okD c d then okR (fn [.ins c ds, d]) else none
      | _ => none
    | none => none
  | x => g x y
def rOwnD (K : PySem.W.Frag) (T : Tab) (okD : Nat → Dt → Bool) (ops : Nat → Option Fn) : R2 := fun x y H Q => ∃ Z c ds d fn r, Le Z H ∧ Rep K T Z (.ins c ds) x ∧ Rep K T Z d y ∧ okD c d = true ∧ ops c = some fn ∧ fn [.ins c ds, d] = some (.ok r) ∧
  ∀ v Z' H', Ext4 Z H Z' H' → RRep K T H Z' H' v r → Q v H'
theorem o2_own {K : PySem.W.Frag} {T : Tab} {W : WX} {r : R2} {g : G2} {okD : Nat → Dt → Bool} {ops : Nat → Option Fn} (h : Op2 K T W r g) : Op2 K T W (fun x y H Q => r x y H Q ∨ rOwnD K T okD ops x y H Q) (gOwn g okD ops) := fun σ B Z H x y v w out Q zh r1 r2 hg p => by
  unfold gOwn at hg
  split at hg
  · rename_i c ds
    split at hg
    · rename_i fn hfn
      split at hg
      · rename_i d
        split at hg
        · rename_i ho
          obtain ⟨r, e1, rfl⟩ := okR_inv hg
          exact .inr ⟨Z, c, ds, d, fn, r, zh, by simpa only [RRep] using r1, by simpa only [RRep] using r2, ho, hfn, e1, p.ok _ rfl⟩
        · cases hg
      · cases hg
    · cases hg
  · exact .inl (h σ B Z H x y v w out Q zh r1 r2 hg p)
section
variable {X : Cx} {T : Tab} {k : Nat} {okD : Nat → Dt → Bool} {ops : Nat → Option Fn} {m : Str}
theorem opr_or {f : Value → Value → Sem Value} {r r' : R2} (h : OpR X f r) (h' : OpR X f r') : OpR X f (fun x y H Q => r x y H Q ∨ r' x y H Q) := fun pins s σ H x y v u Q I rx ry q => q.elim (h pins s σ H x y v u Q I rx ry) (h' pins s σ H x y v u Q I rx ry)
theorem own_call (D : MethsOk X T k m 2 ops) (hr : Room k X.A) {pins : List (Addr × Obj)} {s : Shared} {σ : St} {H Z : Hp} {a : Addr} {c : Nat} {ds : List Dt} {d : Dt} {y : V} {u : Value} {fn : Fn} {r : Rs} {Q : VK} (I : Inv X pins σ H s) (zh : Le Z H) (rx : Rep X.K T Z (.ins c ds) (.ref a)) (rd : Rep X.K T Z d y) (ry : RelV y u)
    (hm : ops c = some fn) (hf : fn [.ins c ds, d] = some (.ok r)) (q : ∀ v Z' H', Ext4 Z H Z' H' → RRep X.K T H Z' H' v r → Q v H') :
    ∃ f, Meth X.K (T.ca c) m f ∧ wpAny (model X.prog X.w) X.A (call (.ref f) [.ref a, u]) (PySem.W.CmpBack (EP X pins σ Q)) X.xe s := by
  obtain ⟨f, Mf, go⟩ := meth_run (W := W0) D hr takes_W0 I zh rx (.cons ry .nil) (.cons rd .nil) hm hf ⟨fun r' e => by cases e; exact q, fun c es e => (nomatch e)⟩
  refine ⟨f, Mf, wpAny_mono go (fun w s' z => ?_) fun _ _ x => x⟩
  obtain ⟨v, H', I', rv, qv⟩ := z
  exact SlX.cmpback rv ⟨v, H', I', rv, qv⟩
def sameC (c : Nat) : Dt → Bool
  | .ins c' _ => decide (c' = c)
  | _ => false
theorem inst_of {pins : List (Addr × Obj)} {s : Shared} {σ : St} {H : Hp} {a dx C : Addr} {fs : List (Str × V)} (I : Inv X pins σ H s) (h : H a = some (.ins C dx fs)) : ∃ ox od, PySem.W.InstAt s.heap a ox C (some od) := by
  obtain ⟨mA, J, _⟩ := ins_get I.hok h
  obtain ⟨od, J, _⟩ := J.look
  exact ⟨_, od, J⟩
theorem op_own2 {op : Operator} (hm : PySem.dunder op.info.2 = m) (D : MethsOk X T k m 2 ops) (hr : Room k X.A) (sf : ∀ c fn, ops c = some fn → PySem.W.selfFirst X.K (T.ca c) = true) : OpR X (binaryOp op) (rOwnD X.K T sameC ops) := by
  intro pins s σ H x y v u Q I rx ry ⟨Z, c, ds, d, fn, r, zh, dx, dy, ho, hfn, hf, q⟩
  obtain ⟨a, dx', vs, rfl, hz⟩ := ins_of (T := T) dx
  obtain rfl : v = Value.ref a := rx
  obtain ⟨f, Mf, go⟩ := own_call D hr I zh dx dy ry hfn hf q
  obtain ⟨mm, hF⟩ := I.fr
  obtain ⟨ox, od, J⟩ := inst_of I (zh _ _ hz)
  cases d with
  | ins c' es =>
    obtain rfl : c' = c := by simpa [sameC] using ho
    obtain ⟨b, dy', ws, rfl, hzb⟩ := ins_of (T := T) dy
    obtain rfl : u = Value.ref b := ry
    obtain ⟨ox2, od2, J2⟩ := inst_of I (zh _ _ hzb)
    exact PySem.W.binop_K hF I.ok.mod.kin J J2.type (sf _ _ hfn) (by rw [hm]; exact Mf.at_) Mf.fn go
  | _ => cases ho
end
end Pd
set_option maxHeartbeats 2000000
namespace Pd
open PySem PySem.Spec L2
def behind (w : String) (C m : Str) (K : PySem.W.Frag) : Addr := match PySem.W.recIn K (He.ma K (He.ga K C) m) w with
  | some (.ref g :: _) => g
  | _ => 0
def atG (x : Str) (K : PySem.W.Frag) : Addr := He.ga K x
def atM (C m : Str) (K : PySem.W.Frag) : Addr := He.ma K (He.ga K C) m
structure DefP where
  loc : PySem.W.Frag → Addr
  nm : Str
  qn : Str
  par : Arguments
  bod : List Stmt
  sco : Scope
  df : List He.Dv := []
abbrev Told : Type := Option (Str × Str × Arguments × FuncBody × Scope × Addr × List (Str × Addr) × Addr)
def seenAt (K : PySem.W.Frag) (a : Addr) : Told := match K.lookup a with
  | some o => (match o.data with
    | .func fd => some (fd.name, fd.qualname, fd.params, fd.body, fd.scope, fd.globals, fd.closure, fd.builtins)
    | _ => none)
  | none => none
def DefP.want (d : DefP) : Told := some (d.nm, d.qn, d.par, .stmts d.bod, d.sco, mainGlobals, [], builtinsNs)
def DefP.dv (d : DefP) (K : PySem.W.Frag) : List V := d.df.map fun q => q.v K
def DefP.good (d : DefP) (K : PySem.W.Frag) : Bool := PySem.W.keepIn K (.ref (d.loc K)) && match K.lookup (d.loc K) with
  | some o => (match o.data with
    | .func fd => PySem.W.codeIn K fd.code d.qn && He.dflB K fd.defaults (d.dv K)
    | _ => false)
  | none => false
theorem DefP.fund {d : DefP} {K : PySem.W.Frag} (e : seenAt K (d.loc K) = d.want) (g : d.good K = true) : ∃ fd, FunD K d.nm d.qn d.par d.bod d.sco (d.dv K) [] (d.loc K) fd := by
  unfold DefP.good at g
  obtain ⟨kp, g2⟩ := Bool.and_eq_true_iff.mp g
  unfold seenAt at e
  generalize hl : K.lookup (d.loc K) = o at e g2
  match o, e, g2 with
  | some ⟨oc, od, .func ⟨n1, n2, n3, n4, n5, n6, n7, n8, n9, n10, n11, n12, n13, n14, n15⟩, osl⟩, e, g2 =>
    have e2 : (some (n1, n2, n3, n4, n5, n6, n7, n15) : Told) = some (d.nm, d.qn, d.par, .stmts d.bod, d.sco, mainGlobals, [], builtinsNs) := e
    simp only [Option.some.injEq, Prod.mk.injEq] at e2
    obtain ⟨h1, h2, h3, h4, h5, h6, h7, h8⟩ := e2
    subst h1 h2 h3 h4 h5 h6 h7 h8
    have g3 : (PySem.W.codeIn K n13 d.qn && He.dflB K n8 (d.dv K)) = true := g2
    obtain ⟨k1, k2⟩ := Bool.and_eq_true_iff.mp g3
    exact ⟨_, ⟨oc, od, n8, n9, n10, n11, n12, n13, n14, osl, rfl, hl, k1, He.dflB_ok k2, .inl rfl⟩, kp⟩
abbrev AlP : Type := Bool × List Told
def lookP (fa : List He.Fa) (fn : List DefP) (ex : PySem.W.Frag → Bool) (K : PySem.W.Frag) : AlP := ((fa.all fun q => q.ok K) && ((fn.all fun d => d.good K) && ex K), fn.map fun d => seenAt K (d.loc K))
def askP (fn : List DefP) : AlP := (true, fn.map DefP.want)
def TellsP (fa : List He.Fa) (fn : List DefP) (ex : PySem.W.Frag → Bool) (K : PySem.W.Frag) : Prop := lookP fa fn ex K = askP fn
section
variable {fa : List He.Fa} {fn : List DefP} {ex : PySem.W.Frag → Bool} {K : PySem.W.Frag}
theorem TellsP.fact (c : TellsP fa fn ex K) (i : Nat) {q : He.Fa} (h : fa[i]? = some q := by rfl) : q.ok K = true := by
  have h1 := Bool.and_eq_true_iff.mp (congrArg (fun z : AlP => z.1) c : _ = true)
  exact List.all_eq_true.mp h1.1 q (List.mem_of_getElem? h)
theorem TellsP.more (c : TellsP fa fn ex K) : ex K = true := by
  have h1 := Bool.and_eq_true_iff.mp (congrArg (fun z : AlP => z.1) c : _ = true)
  exact (Bool.and_eq_true_iff.mp h1.2).2
theorem TellsP.fun_ (c : TellsP fa fn ex K) (i : Nat) {d : DefP} (h : fn[i]? = some d := by rfl) : ∃ fd, FunD K d.nm d.qn d.par d.bod d.sco (d.dv K) [] (d.loc K) fd := by
  have h1 := Bool.and_eq_true_iff.mp (congrArg (fun z : AlP => z.1) c : _ = true)
  have g := List.all_eq_true.mp (Bool.and_eq_true_iff.mp h1.2).1 d (List.mem_of_getElem? h)
  have e : fn.map (fun d => seenAt K (d.loc K)) = fn.map DefP.want := congrArg (fun z : AlP => z.2) c
  have e2 := congrArg (fun l => l[i]?) e
  simp only [List.getElem?_map, h, Option.map_some, Option.some.injEq] at e2
  exact DefP.fund e2 g
end
def bltB (x : Str) (id : String) (K : PySem.W.Frag) : Bool := He.eqO (PySem.W.nsIn K mainGlobals x) (some (some (.builtin id)))
theorem bltB_ok {x : Str} {id : String} {K : PySem.W.Frag} {h : Heap} {mg : Str → Option Value} (X : K.In h) (G : h.Ns mainGlobals mg) (c : bltB x id K = true) : mg x = some (.builtin id) := PySem.W.mg_of X G (He.eqO_ok c)
def propB (C f : Str) (K : PySem.W.Frag) : Bool := He.eqO (PySem.W.findIn K (.ref (He.ga K C)) f) (some (some (.ref (atM C f K)))) && (He.eqO (PySem.W.specialIn K (.ref (atM C f K)) "__get__") (some (some (.builtin "property.__get__"))) &&
  (decide (PySem.W.takesIn K (.ref (atM C f K)) = some true) && match PySem.W.recIn K (atM C f K) "property" with
    | some (.ref g :: _) => decide (g = behind "property" C f K)
    | _ => false))
theorem propB_ok {C f : Str} {K : PySem.W.Frag} (c : propB C f K = true) : PropOf K (He.ga K C) f (atM C f K) (behind "property" C f K) := by
  unfold propB at c
  simp only [Bool.and_eq_true] at c
  obtain ⟨c1, c2, c3, c4⟩ := c
  refine ⟨He.eqO_ok c1, He.eqO_ok c2, of_decide_eq_true c3, ?_⟩
  split at c4
  · rename_i g rest e
    rw [of_decide_eq_true c4] at e
    exact ⟨rest, e⟩
  · cases c4
def isiB (C : Str) (K : PySem.W.Frag) : Bool := He.eqO (PySem.W.findIn K (.ref (He.ga K C)) "__class__") (some (some (.builtin "object.__class__"))) && decide (PySem.W.mroIn K (He.ga K C) (.type "object") = some true)
def isi0 (K : PySem.W.Frag) : Bool := He.eqO (PySem.W.specialIn K (.builtin "object.__class__") "__get__") (some (some (.builtin "getset_descriptor.__get__"))) && decide (PySem.W.takesIn K (.builtin "object.__class__") = some true)
theorem isiB_ok {T : Tab} {c : Nat} {C : Str} {K : PySem.W.Frag} (hc : Cls K (T.ca c)) (hT : T.ca c = He.ga K C) (c0 : isi0 K = true) (cc : isiB C K = true) : IsiC K T c := by
  obtain ⟨a1, a2⟩ := Bool.and_eq_true_iff.mp c0
  obtain ⟨b1, b2⟩ := Bool.and_eq_true_iff.mp cc
  exact ⟨hc, by rw [hT]; exact He.eqO_ok b1, He.eqO_ok a1, of_decide_eq_true a2, by rw [hT]; exact of_decide_eq_true b2⟩
def kitCC (C D : Str) (b : Bool) (K : PySem.W.Frag) : Bool := decide (PySem.W.kitOne K (.ref (He.ga K C)) (.ref (He.ga K D)) = some b)
def sfB (C : Str) (K : PySem.W.Frag) : Bool := PySem.W.selfFirst K (He.ga K C)
theorem look_mem {c : Nat} {r : Bool} : ∀ {cs : List (Nat × Bool)}, cs.lookup c = some r → (c, r) ∈ cs
  | [], h => by cases h
  | (d, b) :: cs, h => by
    by_cases e : c = d
    · subst e
      simp [List.lookup] at h
      subst h
      exact List.mem_cons_self
    · have eb : (c == d) = false := beq_eq_false_iff_ne.mpr e
      simp only [List.lookup, eb] at h
      exact List.mem_cons_of_mem _ (look_mem h)
def ansC (ns : List String) (cs : List (Nat × Bool)) : CR → Option Bool
  | .ty m => if ns.contains m then some false else none
  | .own c => cs.lookup c
theorem ansB_ok {K : PySem.W.Frag} {T : Tab} {n : String} {cs : List Nat} (h : ∀ c ∈ cs, PySem.W.kitOne K (.ref (T.ca c)) (.type n) = some false) : ∀ t r, ansB n cs t = some r → PySem.W.kitOne K (t.val T) ((CR.ty n).val T) = some r := by
  intro t r e
  cases t with
  | ty m => exact kit_ty e
  | own c =>
    have e2 : (if cs.contains c then some false else none) = some r := e
    split at e2
    · rename_i hc
      cases e2
      exact h c (by simpa using hc)
    · cases e2
theorem ansC_ok {K : PySem.W.Frag} {T : Tab} {d : Nat} {ns : List String} {cs : List (Nat × Bool)} (h1 : ∀ n ∈ ns, PySem.W.kitOne K (.type n) (.ref (T.ca d)) = some false) (h2 : ∀ q ∈ cs, PySem.W.kitOne K (.ref (T.ca q.1)) (.ref (T.ca d)) = some q.2) :
    ∀ t r, ansC ns cs t = some r → PySem.W.kitOne K (t.val T) ((CR.own d).val T) = some r := by
  intro t r e
  cases t with
  | ty m =>
    have e2 : (if ns.contains m then some false else none) = some r := e
    split at e2
    · rename_i hc
      cases e2
      exact h1 m (by simpa using hc)
    · cases e2
  | own c =>
    have e2 : cs.lookup c = some r := e
    exact h2 (c, r) (look_mem e2)
end Pd
set_option maxHeartbeats 2000000
namespace Pd
open PySem PySem.Spec L2
def FxP (fa : List He.Fa) (fn : List DefP) (bs : List (PySem.W.Frag → Bool)) (P : Program) (K : PySem.W.Frag) (mg : Str → Option Value) : Prop := P.given.tree = none ∧ ∃ h : Heap, K.In h ∧ h.Ns mainGlobals mg ∧ TellsP fa fn (fun K => bs.all fun b => b K) K
section
variable {fa : List He.Fa} {fn : List DefP} {bs : List (PySem.W.Frag → Bool)} {P : Program} {K : PySem.W.Frag} {mg : Str → Option Value} {T : Tab}
theorem FxP.free (fx : FxP fa fn bs P K mg) (i : Nat) {x : Str} (h : fa[i]? = some (.free x) := by rfl) : mg x = none := by
  obtain ⟨_, hp, X, G, c⟩ := fx
  exact He.free_ok X G (c.fact i h)
theorem FxP.glo (fx : FxP fa fn bs P K mg) (i : Nat) {x : Str} (h : fa[i]? = some (.glo x) := by rfl) : mg x = some (.ref (He.ga K x)) := by
  obtain ⟨_, hp, X, G, c⟩ := fx
  exact He.glo_ok X G (c.fact i h)
theorem FxP.fact (fx : FxP fa fn bs P K mg) (i : Nat) {q : He.Fa} (h : fa[i]? = some q := by rfl) : q.ok K = true := by
  obtain ⟨_, hp, X, G, c⟩ := fx
  exact c.fact i h
theorem FxP.bool (fx : FxP fa fn bs P K mg) (i : Nat) {b : PySem.W.Frag → Bool} (h : bs[i]? = some b := by rfl) : b K = true := by
  obtain ⟨_, hp, X, G, c⟩ := fx
  exact List.all_eq_true.mp c.more b (List.mem_of_getElem? h)
theorem FxP.blt (fx : FxP fa fn bs P K mg) (i : Nat) {x : Str} {id : String} (h : bs[i]? = some (bltB x id) := by rfl) : mg x = some (.builtin id) := by
  have b := fx.bool i h
  obtain ⟨_, hp, X, G, c⟩ := fx
  exact bltB_ok X G b
theorem FxP.fun_ (fx : FxP fa fn bs P K mg) (i : Nat) {d : DefP} (h : fn[i]? = some d := by rfl) : ∃ fd, FunD K d.nm d.qn d.par d.bod d.sco (d.dv K) [] (d.loc K) fd := by
  obtain ⟨_, hp, X, G, c⟩ := fx
  exact c.fun_ i h
theorem FxP.cls (fx : FxP fa fn bs P K mg) (i : Nat) {x : Str} (h : fa[i]? = some (.cls x) := by rfl) : Cls K (He.ga K x) := He.cls_ok (fx.fact i h)
theorem FxP.noat (fx : FxP fa fn bs P K mg) (i : Nat) {x f : Str} (h : fa[i]? = some (.noat x f) := by rfl) : NoAttr K (He.ga K x) f := He.noat_ok (fx.fact i h)
theorem FxP.meth (fx : FxP fa fn bs P K mg) (i : Nat) {x m : Str} (h : fa[i]? = some (.meth x m) := by rfl) : Meth K (He.ga K x) m (atM x m K) := He.meth_ok (fx.fact i h)
theorem FxP.mkr (fx : FxP fa fn bs P K mg) (i : Nat) {x : Str} (h : fa[i]? = some (.mkr x) := by rfl) : Mk K (He.ga K x) (atM x "__init__" K) := He.mkr_ok (fx.fact i h)
theorem law_of {h : Heap} {f : Addr} (X : K.In h) (G : h.Ns mainGlobals mg) (c : TellsP fa fn (fun K => bs.all fun b => b K) K) {x : Str} (hfa : mg x = some (.ref f)) (i j : Nat) {d : DefP} (h1 : fn[i]? = some d) (h2 : fa[j]? = some (.glo x)) (hl : d.loc K = He.ga K x) (hd : d.df = [])
    {p : Str} (hb : ∀ (kV doc pm : Value) (an : Option Addr) (cdv ct : Value) (us : List Value), us.length = 1 → bindArgs (PySem.W.fnOf d.nm d.qn d.par d.bod d.sco .none kV doc pm an cdv ct) ⟨us, []⟩ = pure ([p].zip us)) :
    ∃ fd, FunD K d.nm d.qn d.par d.bod d.sco [] [] f fd ∧ ∀ (s : Shared) (v : Value), BindsTo s fd ⟨[v], []⟩ [(p, v)] := by
  obtain ⟨fd, F⟩ := c.fun_ i h1
  have e := hfa.symm.trans (He.glo_ok X G (c.fact j h2))
  cases e
  have F2 : FunD K d.nm d.qn d.par d.bod d.sco [] [] (He.ga K x) fd := by
    rw [← hl]
    have : d.dv K = [] := by unfold DefP.dv; rw [hd]; rfl
    rw [← this]
    exact F
  exact ⟨fd, F2, fun s v => FunD.bindsA (ps := [p]) F2 hb s [v] rfl⟩
theorem convI_full {fd : FuncData} {ps ks : List Str} {n : Nat} (h : ConvI K T fd ps n ks (fun ds _ => ds ++ [])) : ConvI K T fd ps n ks (fun ds _ => ds) := by
  simpa only [List.append_nil] using h
end
section
variable {X : Cx} {T : Tab} {W : WX} {a : Expr} {fa : FE} {p q2 pos : Pos}
theorem pd_isT (n : String) (cs : List Nat) (hk : ∀ c ∈ cs, PySem.W.kitOne X.K (.ref (T.ca c)) (.type n) = some false ∧ IsiC X.K T c) (hm : X.mg "isinstance" = none) (hmn : X.mg (Str.ofString n) = none) (ha : PD X T W a fa) (hv : bootBuiltins (Str.ofString n) = some (.type n)) (hgn : Gl X (Str.ofString n) := by rfl)
    (hnn : (Str.ofString n) ≠ "__name__" := by decide) (hd : ((Str.ofString n) == ("__debug__" : Str)) = false := by decide)
    (hg : Gl X "isinstance" := by rfl) (hs : starEach (a :: [.Name (Str.ofString n) q2]) X.env = (false, eval a X.env) :: starEach [.Name (Str.ofString n) q2] X.env := by rfl) (hs2 : starEach (.Name (Str.ofString n) q2 :: []) X.env = (false, eval (.Name (Str.ofString n) q2) X.env) :: starEach [] X.env := by rfl)
    (hpl : (backTo pos (starEach [.Name (Str.ofString n) q2] X.env)).any (·.1) = false := by rfl) : PD X T W (.Call (.Name "isinstance" p) [a, .Name (Str.ofString n) q2] [] pos) (e1 (gIsi (ansB n cs)) fa) :=
  pd_isi (.ty n) (ansB_ok fun c hc => (hk c hc).1) (fun c r h => by
    have e2 : (if cs.contains c then some false else none) = some r := h
    split at e2
    · rename_i hc
      exact (hk c (by simpa using hc)).2
    · cases e2) hm ha (pe_bltn hgn hmn hv rfl hnn hd) hg hs hs2 hpl
theorem pd_isC (d : Nat) (ns : List String) (cs : List (Nat × Bool)) {x : Str} (h1 : ∀ n ∈ ns, PySem.W.kitOne X.K (.type n) (.ref (T.ca d)) = some false) (h2 : ∀ q ∈ cs, PySem.W.kitOne X.K (.ref (T.ca q.1)) (.ref (T.ca d)) = some q.2 ∧ IsiC X.K T q.1)
    (hm : X.mg "isinstance" = none) (hx : X.mg x = some (.ref (T.ca d))) (ha : PD X T W a fa) (hgx : Gl X x := by rfl) (hdb : (x == ("__debug__" : Str)) = false := by decide)
    (hg : Gl X "isinstance" := by rfl) (hs : starEach (a :: [.Name x q2]) X.env = (false, eval a X.env) :: starEach [.Name x q2] X.env := by rfl) (hs2 : starEach (.Name x q2 :: []) X.env = (false, eval (.Name x q2) X.env) :: starEach [] X.env := by rfl)
    (hpl : (backTo pos (starEach [.Name x q2] X.env)).any (·.1) = false := by rfl) : PD X T W (.Call (.Name "isinstance" p) [a, .Name x q2] [] pos) (e1 (gIsi (ansC ns cs)) fa) :=
  pd_isi (.own d) (ansC_ok h1 fun q hq => (h2 q hq).1) (fun c r h => (h2 (c, r) (look_mem h)).2) hm ha (pe_glob hgx hx rfl hdb) hg hs hs2 hpl
end
end Pd
set_option maxHeartbeats 2000000
namespace Pd
open PySem PySem.Spec L2
def tbl {α : Type} (l : List (Nat × α)) (c : Nat) : Option α := l.lookup c
theorem tbl_mem {α : Type} {c : Nat} {r : α} : ∀ {l : List (Nat × α)}, tbl l c = some r → (c, r) ∈ l
  | [], h => by cases h
  | (d, b) :: l, h => by
    by_cases e : c = d
    · subst e
      have h2 : ((c, b) :: l).lookup c = some r := h
      simp [List.lookup] at h2
      subst h2
      exact List.mem_cons_self
    · have eb : (c == d) = false := beq_eq_false_iff_ne.mpr e
      have h2 : ((d, b) :: l).lookup c = some r := h
      simp only [List.lookup, eb] at h2
      exact List.mem_cons_of_mem _ (tbl_mem h2)
theorem tbl_all {α : Type} {l : List (Nat × α)} {Q : Nat → α → Prop} (h : ∀ q ∈ l, Q q.1 q.2) : ∀ c r, tbl l c = some r → Q c r := fun c r e => h (c, r) (tbl_mem e)
theorem all_nil {β : Type} {Q : β → Prop} : ∀ q ∈ ([] : List β), Q q := fun q h => (nomatch h)
theorem all_cons {β : Type} {Q : β → Prop} {a : β} {l : List β} (h : Q a) (t : ∀ q ∈ l, Q q) : ∀ q ∈ a :: l, Q q := fun q hq => by
  rcases List.mem_cons.mp hq with e | e
  · rw [e]; exact h
  · exact t q e
def mfn (n : Nat) (gD : List Dt → List Dt) (fn : Fn) : Fn := fun ds => if ds.length = n then fn (gD ds) else none
section
variable {P : Program} {w : World} {K : PySem.W.Frag} {mg : Str → Option Value} {base : Heap} {T : Tab} {j k c n : Nat} {m f : Str} {gD : List Dt → List Dt} {fn : Fn}
theorem MethOk.mono (h : MethOk P w K mg base T j c m n gD fn) (hj : j ≤ k) : MethOk P w K mg base T k c m n gD fn := by
  obtain ⟨h1, h2, g, fd, ps, a, b, F⟩ := h
  exact ⟨h1, h2, g, fd, ps, a, b, F.mono hj⟩
theorem PropOk.mono (h : PropOk P w K mg base T j c f fn) (hj : j ≤ k) : PropOk P w K mg base T k c f fn := by
  obtain ⟨h1, p, g, fd, ps, a, b, F⟩ := h
  exact ⟨h1, p, g, fd, ps, a, b, F.mono hj⟩
theorem ClsG.mono {x : Str} {fi : FI} (h : ClsG P w K mg base T j x c n gD fi) (hj : j ≤ k) : ClsG P w K mg base T k x c n gD fi := by
  obtain ⟨g, fd, ps, a, b, d, e, F⟩ := h
  exact ⟨g, fd, ps, a, b, d, e, F.mono hj⟩
theorem DefG.mono {x : Str} (h : DefG P w K mg base T j x n gD fn) (hj : j ≤ k) : DefG P w K mg base T k x n gD fn := by
  obtain ⟨g, fd, ps, a, b, d, F⟩ := h
  exact ⟨g, fd, ps, a, b, d, F.mono hj⟩
end
section
variable {X : Cx} {T : Tab} {k c n : Nat} {m : Str} {gD : List Dt → List Dt} {fn : Fn} {l : List (Nat × Fn)}
theorem meths_nil : MethsOk X T k m n (tbl []) := fun c fn h => (nomatch h)
theorem meths_cons (h : MethOk X.prog X.w X.K X.mg X.base T k c m n gD fn) (t : MethsOk X T k m n (tbl l)) : MethsOk X T k m n (tbl ((c, mfn n gD fn) :: l)) := fun c' fn' h' => by
  by_cases e : c' = c
  · subst e
    have h2 : ((c', mfn n gD fn) :: l).lookup c' = some fn' := h'
    simp [List.lookup] at h2
    subst h2
    exact ⟨gD, fn, h, rfl⟩
  · have eb : (c' == c) = false := beq_eq_false_iff_ne.mpr e
    have h2 : ((c, mfn n gD fn) :: l).lookup c' = some fn' := h'
    simp only [List.lookup, eb] at h2
    exact t c' fn' h2
end
end Pd
set_option maxHeartbeats 2000000
namespace Pd
open PySem PySem.Spec L2
def sRaise (c : Nat) : FS := fun ρ => some (.xc c [] ρ)
structure ExcK (K : PySem.W.Frag) (C : Addr) : Prop where
  ex : PySem.W.excIn K C He.veBase "ValueError.__new__" = true ∧ PySem.W.keepIn K (.ref C) = true ∧ PySem.W.subIn K (.ref C) (.type "BaseException") = some true ∧ PySem.W.typeIn K (.ref C) = some (.type "type")
theorem FxP.exc {fa : List He.Fa} {fn : List DefP} {bs : List (PySem.W.Frag → Bool)} {P : Program} {K : PySem.W.Frag} {mg : Str → Option Value} (fx : FxP fa fn bs P K mg) (i : Nat) {x : Str} (h : fa[i]? = some (.exc x) := by rfl) : ExcK K (He.ga K x) := ⟨He.exc_ok (fx.fact i h)⟩
section
variable {X : Cx} {T : Tab} {W : WX} {x m : Str} {j : Nat} {p p2 pos rpos : Pos}
theorem pds_raise (c : Nat) (hc : X.calm = true) (tk : Takes X W) (k : ExcK X.K (T.ca c)) (gC : X.mg x = some (.ref (T.ca c))) (hg : Gl X x := by rfl) (hdb : (x == ("__debug__" : Str)) = false := by decide) :
    PDS X T W (.Raise (some (.Call (.Name x p) [.Constant (.str m) j p2] [] pos)) none rpos) (sRaise c) := by
  obtain ⟨e1, e2, e3, e4⟩ := k.ex
  refine PS.imp (ps_raise hc tk (pmk_own PySem.F.excBase_ValueError e1 gC e2 (raises_own e3 e4) hg hdb)) fun D σ H ⟨H0, Z0, env, Z, out, h, s, po⟩ => ?_
  cases h
  exact po.xc _ _ _ rfl _ _ σ Z H s ⟨rfl, .inl ⟨rfl, rfl⟩⟩
end
end Pd
set_option maxHeartbeats 2000000
namespace Pd
open PySem PySem.Spec L2
section
variable {X : Cx} {T : Tab} {i : Nat} {a : Addr} {b b' : Bool} {x y : Str} {p q1 q2 pos : Pos} {e e' : Expr} {rest : List Expr}
theorem pd_cat {T : Tab} {W : WX} {a c : Expr} {fa fb : FE} {pos : Pos} (ha : PD X T W a fa) (hb : PD X T W c fb) : PD X T W (.BinOp a .Add c pos) (e2 gCat fa fb) := pd_op op_catL o2_cat ha hb
theorem pd_rep {T : Tab} {W : WX} {a c : Expr} {fa fb : FE} {pos : Pos} (ha : PD X T W a fa) (hb : PD X T W c fb) : PD X T W (.BinOp a .Mult c pos) (e2 gRep fa fb) := pd_op op_rep o2_rep ha hb
end
section
variable {X : Cx} {T : Tab} {W : WX} {i : Nat} {x n : Str} {np rp pos pos' : Pos} {E : Expr} {body : List Stmt} {F : FS} {u : Addr}
end
end Pd
set_option maxHeartbeats 2000000
namespace Pd
open PySem PySem.Spec L2 RT
section
variable {K : PySem.W.Frag} {T : Tab} {Z1 H1 : Hp}
theorem rev_get {α : Type} {xs : List α} {i : Nat} (h : i < xs.length) : xs.reverse[i]? = xs[xs.length - 1 - i]? := by
  rw [List.getElem?_reverse h]
theorem itD_revL {a : Addr} {vs : List V} {ds : List Dt} (h : SqL K Z1 a vs) (r : Reps K T Z1 ds vs) : ItD K T (Itv K a vs.length) Z1 H1 ds.reverse := by
  refine ⟨fun i d Z H l1 l2 hd => ?_, fun i Z H l1 l2 hi => ?_⟩
  · have hi : i < ds.length := by
      have := (List.getElem?_eq_some_iff.mp hd).1
      rwa [List.length_reverse] at this
    rw [rev_get hi] at hd
    obtain ⟨w, g1, g2⟩ := r.get hd
    rw [← r.length] at g1
    refine ⟨⟨by rw [r.length]; exact hi, vs, w, l2.seqL (l1.seqL h), g1⟩, fun x H' ⟨e, y⟩ => ?_⟩
    subst e
    have := y vs (l2.seqL (l1.seqL h))
    rw [g1] at this
    cases this
    exact ⟨Z, Ext4.refl l2, g2.mono l1⟩
  · show vs.length ≤ i
    rw [r.length]
    rwa [List.length_reverse] at hi
theorem itD_revT {a : Addr} {vs : List V} {ds : List Dt} (h : SqT K Z1 a vs) (r : Reps K T Z1 ds vs) : ItD K T (ItvT K a vs.length) Z1 H1 ds.reverse := by
  refine ⟨fun i d Z H l1 l2 hd => ?_, fun i Z H l1 l2 hi => ?_⟩
  · have hi : i < ds.length := by
      have := (List.getElem?_eq_some_iff.mp hd).1
      rwa [List.length_reverse] at this
    rw [rev_get hi] at hd
    obtain ⟨w, g1, g2⟩ := r.get hd
    rw [← r.length] at g1
    refine ⟨⟨by rw [r.length]; exact hi, vs, w, l2.seqT (l1.seqT h), g1⟩, fun x H' ⟨e, y⟩ => ?_⟩
    subst e
    have := y vs (l2.seqT (l1.seqT h))
    rw [g1] at this
    cases this
    exact ⟨Z, Ext4.refl l2, g2.mono l1⟩
  · show vs.length ≤ i
    rw [r.length]
    rwa [List.length_reverse] at hi
end
def iRevS (f : FE) : FIt := fun ρ => bnd (f ρ) fun r => bnd (frz r) fun d => match asSeq d with
  | some ds => some (.ok ds.reverse)
  | none => none
section
variable {X : Cx} {T : Tab} {W : WX} {tg e : Expr} {f : FE} {p pos : Pos}
theorem pdi_rev (hm : X.mg "reversed" = none) (he : PD X T W e f) (hg : Gl X "reversed" := by rfl) (hs : starEach [e] X.env = (false, eval e X.env) :: starEach [] X.env := by rfl) : PDI X T W tg (.Call (.Name "reversed" p) [e] [] pos) (iRevS f) := by
  refine PI.imp (pi_revA hg hm he hs) fun σ H R ⟨H0, Z0, env, Z, out, h, s, p⟩ => ?_
  unfold iRevS at h
  rcases bnd_cases h with ⟨c, ds, q1, q2⟩ | ⟨r, q1, q2⟩
  · exact ⟨H0, Z0, env, Z, _, q1, s, fun r q => (nomatch q), fun c' ds' q cls d Z' H' e x => by cases q; exact p.ex _ _ q2 cls d Z' H' e x⟩
  · rcases bnd_cases q2 with ⟨c, ds, q3, q4⟩ | ⟨d, q3, q4⟩
    · cases r <;> cases q3
    · refine ⟨H0, Z0, env, Z, _, q1, s, fun r' q v Z' H' x rr => ?_, fun c' ds' q => (nomatch q)⟩
      cases q
      obtain ⟨Z2, x2, _, rd⟩ := rr.freeze q3 x
      cases d with
      | lst ds =>
        cases q4
        simp only [Rep] at rd
        obtain ⟨q, vs, rfl, g1, g2⟩ := rd
        exact ⟨q, vs, rfl, .inl ⟨x2.zh.seqL g1, p.ok _ rfl _ Z2 H' x2 (itD_revL g1 g2)⟩⟩
      | tup ds =>
        cases q4
        simp only [Rep] at rd
        obtain ⟨q, vs, rfl, g1, g2⟩ := rd
        exact ⟨q, vs, rfl, .inr ⟨x2.zh.seqT g1, p.ok _ rfl _ Z2 H' x2 (itD_revT g1 g2)⟩⟩
      | _ => cases q4
end
end Pd
set_option maxHeartbeats 4000000
namespace PySem
open AutoSeq1 (wpAny_loadPart')
theorem pd_meets_enumT (l : Addr) (o : Obj) (items : Array Value) (hI : o.cls = .type "tuple") (n : Nat) (hd : o.data = .seq items n) :
    Meets (Builtin.«enumerate.__new__» ⟨[.type "enumerate", .ref l], []⟩) (fun _ R s => s.heap.get? l = some o ∧
      R (.ok (.ret (.ref (s.heap.push { cls := .type "tuple_iterator", data := .fields #[.ref l, .int 0 0] }).objs.size)))
        { s with heap := (s.heap.push { cls := .type "tuple_iterator", data := .fields #[.ref l, .int 0 0] }).push { cls := .type "enumerate", data := .fields #[.none, .bool false, .ref s.heap.objs.size, rawInt 0, .none, .none] } }) :=
  .of_wp fun prog w A R s h => by
    obtain ⟨hp, g, d, tk, os⟩ := s; obtain ⟨hl, h⟩ := h
    have hsub := sub_enumerate
    obtain ⟨c, dct, dt, sl⟩ := o
    replace hI : c = .type "tuple" := hI
    replace hd : dt = .seq items n := hd
    subst hI hd
    have hL : Heap.IsTuple (Shared.heap ⟨hp, g, d, tk, os⟩) l items := ⟨_, hl, rfl, n, rfl⟩
    wp_walk using wpAny_loadPart' hl
    refine wpAny_stack_any fun st => wpAny_pure ?_
    split
    · rename_i c _ _ _ _ _
      cases (c == Value.type "enumerate")
      · wp_walk using wpAny_loadPart' hl, wpAny_pyIter_tuple hL
        exact ⟨_, rfl, h⟩
      · wp_walk using wpAny_loadPart' hl, wpAny_pyIter_tuple hL
        exact ⟨_, rfl, h⟩
    · wp_walk using wpAny_loadPart' hl, wpAny_pyIter_tuple hL
      exact ⟨_, rfl, h⟩
section
variable {prog : Program} {w : World} {A : Around} {E : Value → Shared → Prop} {s : Shared}
theorem pd_call_enumT {l : Addr} {items : Array Value} {Q : Value → Shared → Prop} (hL : s.heap.IsTuple l items)
    (h : ∀ h', IsEnum h' (s.heap.objs.size + 1) s.heap.objs.size 0 .none → h'.IsTupleIter s.heap.objs.size l 0 → h'.objs.size = s.heap.objs.size + 2 →
      (∀ b o, s.heap.get? b = some o → h'.get? b = some o) → Q (.ref (s.heap.objs.size + 1)) { s with heap := h' }) :
    wpAny (model prog w) A (call (.type "enumerate") [.ref l]) Q E s := by
  obtain ⟨o, hl, hc, n, hd⟩ := hL
  refine callType_new F.called_enumerate (by decide) (F.typeCall_enumerate_1 _) (F.newCall_enumerate_1 _) (fun obj => F.args_object_init_2 obj _) F.entry_enumerate_new
    (pd_meets_enumT l o items hc n hd) ⟨hl, ?_⟩
  have hz : (s.heap.push { cls := .type "tuple_iterator", data := .fields #[.ref l, .int 0 0] }).objs.size = s.heap.objs.size + 1 := Heap.size_push ..
  show _ ∧ _
  rw [hz]
  have he : IsEnum ((s.heap.push { cls := .type "tuple_iterator", data := .fields #[.ref l, .int 0 0] }).push
      { cls := .type "enumerate", data := .fields #[.none, .bool false, .ref s.heap.objs.size, rawInt 0, .none, .none] }) (s.heap.objs.size + 1) s.heap.objs.size 0 .none := by
    have := Heap.get?_push_size (s.heap.push { cls := .type "tuple_iterator", data := .fields #[.ref l, .int 0 0] })
      (o := { cls := .type "enumerate", data := .fields #[.none, .bool false, .ref s.heap.objs.size, rawInt 0, .none, .none] }) rfl
    rw [hz] at this; exact this
  refine ⟨⟨_, he, rfl⟩, h _ he ⟨_, Heap.get?_push_of_some _ (Heap.get?_push_size _ rfl), rfl, rfl⟩ (by rw [Heap.size_push, hz]) fun b o x => Heap.get?_push_of_some _ (Heap.get?_push_of_some _ x)⟩
end
end PySem
set_option maxHeartbeats 4000000
namespace Pd
open PySem PySem.Spec PyProof.Rows L2 RT RZ
def IteT (K : PySem.W.Frag) (a : Addr) (n : Nat) : It :=
  ⟨fun i H => i < n ∧ ∃ (xs : List V) (x : V), xs.length = n ∧ SqT K H a xs ∧ xs[i]? = some x, fun i H v H' => ∃ T x, v = .ref T ∧ H T = none ∧ H' = upd H T (.tup [.int (i : Nat), x]) ∧ ∀ xs, SqT K H a xs → xs[i]? = some x, fun i H => n ≤ i ∧ ∃ xs : List V, xs.length = n ∧ SqT K H a xs⟩
theorem tup_ne_iter {h : Heap} {a it l : Addr} {i : Nat} {items : Array Value} (hT : h.IsTuple a items) (hI : h.IsTupleIter it l i) : a ≠ it := by
  intro e
  subst e
  obtain ⟨o, e1, c1, _⟩ := hT
  obtain ⟨o2, e2, c2, _⟩ := hI
  rw [e1] at e2
  cases e2
  rw [c1] at c2
  simp at c2
theorem tup_ne_enum {h : Heap} {a e it : Addr} {i : Int} {old : Value} {items : Array Value} (hT : h.IsTuple a items) (hI : IsEnum h e it i old) : e ≠ a := by
  intro q
  subst q
  obtain ⟨o, e1, c1, _⟩ := hT
  have e2 : h.get? e = some _ := hI
  rw [e1] at e2
  cases e2
  simp at c1
theorem turn_enumT {P : Program} {w : World} {K : PySem.W.Frag} {elts : List Expr} {kk : Nat} {tpos : Pos} (a e it : Addr) (n : Nat) :
    Turn P w K (.Tuple elts kk tpos) (IteT K a n) [e, it] e (fun i h => i ≤ n ∧ (∃ old, IsEnum h e it ((i : Nat) : Int) old) ∧ h.IsTupleIter it a i ∧ e ≠ it) where
  mem := by simp
  obj := fun i h st b hb => by
    obtain ⟨_, ⟨old, he⟩, ⟨o, ho, hc, hd⟩, _⟩ := st
    have e' : b = e ∨ b = it := by simpa using hb
    rcases e' with z | z
    · rw [z]; exact ⟨_, he, fun v q => nomatch q⟩
    · rw [z]; exact ⟨o, ho, fun v q => by rw [hd] at q; cases q⟩
  keep := fun i h h' st k => let ⟨hn, ⟨old, he⟩, hi, hne⟩ := st; ⟨hn, ⟨old, k e (by simp) _ he⟩, hi.at fun o q => k it (by simp) o q, hne⟩
  item := by
    intro X hP hw hK hc i pins s σ H E I hf st hg
    subst hP hw hK
    obtain ⟨hn, ⟨old, he⟩, hit, hne⟩ := st
    obtain ⟨hin, xs, x, hl, hq, hx⟩ := hg
    obtain ⟨its, rv, p, hz⟩ := I.tuple hq
    obtain ⟨u, hu, ru⟩ := rv.get hx
    have pT : s.heap.IsTuple a its.toArray := p
    have hel : e < s.heap.objs.size := Heap.lt_size he
    have hil : it < s.heap.objs.size := by obtain ⟨_, q, _⟩ := id hit; exact Heap.lt_size q
    have hat := tup_ne_iter pT hit
    have hea := tup_ne_enum pT he
    have hsz0 : its.toArray.size = n := by rw [List.size_toArray, ← hl, rv.length]
    refine wpAny_pyNext_enum_itemD (Draws.tuple (A := X.A.in1) (I.ok.hd hc) it a hat its.toArray) he ⟨hit, pT⟩ (by rw [hsz0]; exact hin) hne (by simp [hne, hea]) fun u' h' tk hu' ho hst' hT hsz hk => ?_
    have eu : u' = u := by
      have h1 : its.toArray[i]? = some u' := hu'
      have h2 : its[i]? = some u := hu
      simp [h2] at h1
      exact h1.symm
    subst eu
    refine ⟨_, rfl, wpAny_letOwnedTupleGo_enum (s := { s with heap := h', toks := tk + 1 }) ho fun h'' he' sb => ?_⟩
    have hT2 : h''.get? s.heap.objs.size = some { cls := .type "tuple", data := .seq #[.int i tk, u'] } := (sb.2 _ (Nat.ne_of_gt hel)).trans hT
    have new : ObjOk X.prog X.w (upd H s.heap.objs.size (.tup [.int (i : Nat), x])) h'' s.heap.objs.size (.tup [.int (i : Nat), x]) :=
      ⟨by show 2 ≤ sizeLine; decide, [.int i tk, u'], .cons ⟨_, rfl⟩ (.cons ru .nil), ⟨_, hT2, rfl, _, rfl⟩⟩
    have I1 : Inv X pins σ (upd H s.heap.objs.size (.tup [.int (i : Nat), x])) { s with heap := h'', toks := tk + 1 } :=
      I.turnedNew (ch := [e, it]) (fun b ob hb q => (sb.2 b (fun z => hb (by simp [z]))).trans (hk b ob (fun z => hb (by simp [z])) (fun z => hb (by simp [z])) q)) hf (Nat.le_refl _) new
    refine ⟨.ref s.heap.objs.size, _, I1, rfl, ⟨_, x, rfl, I.hok.fresh (Nat.le_refl _), rfl, fun ys hy => by rw [I.tuple_inj hy hq]; exact hx⟩, ⟨hin, ⟨u', ?_⟩, hst'.1.at fun o q => (sb.2 it (Ne.symm hne)).trans q, hne⟩, fun b hb => ?_⟩
    · have e1 : ((i + 1 : Nat) : Int) = (i : Int) + 1 := by omega
      rw [e1]; exact he'
    · have hb' : b < s.heap.objs.size := by
        have e' : b = e ∨ b = it := by simpa using hb
        rcases e' with z | z
        · rw [z]; exact hel
        · rw [z]; exact hil
      rw [upd_ne (Nat.ne_of_lt hb')]
      exact (hf b hb).1
  done := by
    intro X hP hw hK hc i pins s σ H E I hf st hg
    subst hP hw hK
    obtain ⟨hn, ⟨old, he⟩, hit, hne⟩ := st
    obtain ⟨hle, xs, hl, hq⟩ := hg
    obtain ⟨its, rv, p, hz⟩ := I.tuple hq
    obtain ⟨f0, f1, f2, f3, f4, f5⟩ := hf it (by simp)
    have pT : s.heap.IsTuple a its.toArray := p
    have hat := tup_ne_iter pT hit
    have hsz0 : its.toArray.size = i := by rw [List.size_toArray, ← rv.length, hl]; omega
    exact wpAny_pyNext_enum_endD (Draws.tuple (A := X.A.in1) (I.ok.hd hc) it a hat its.toArray) he ⟨by rw [hsz0]; exact hit, pT⟩ fun h' eb => ⟨rfl, I.turned (t' := s.toks) (fun b o hb q => eb b o hb q) f0 f1 f3 f4 f5⟩
  self := fun A i s Q E st h => let ⟨_, ⟨_, he⟩, _⟩ := st; wpAny_pyIter_enum he h
def iEnumA (K : PySem.W.Frag) (ta : TA) : TI := fun σ H R => ta σ H fun vs H1 => ∃ a xs, vs = [.ref a] ∧ ((SqL K H1 a xs ∧ R (Ite K a) H1) ∨ (SqT K H1 a xs ∧ R (IteT K a xs.length) H1))
theorem pi_enumA {X : Cx} {e : Expr} {ta : TA} {p pos tpos : Pos} {elts : List Expr} {kk : Nat} (hg : Gl X "enumerate") (hm : X.mg "enumerate" = none) (ha : PA X [e] ta) (hs : starEach [e] X.env = [(false, eval e X.env)] := by rfl) :
    PI X (.Tuple elts kk tpos) (.Call (.Name "enumerate" p) [e] [] pos) (iEnumA X.K ta) := by
  refine ⟨fun pins s σ H R I h => ?_⟩
  refine Call_ (ld_blt I hg hm boot_enumerate (PyProof.Rows.callWith_type1 (thn (ha.run pos pins s σ H _ I h) fun us s1 ⟨vs, H1, I1, r1, q1⟩ => ?_) hs rfl))
  obtain ⟨a, xs, ex, q1⟩ := q1
  subst ex
  cases r1 with
  | cons r rr =>
    cases rr
    cases r
    have fresh2 : ∀ b, b ∈ [s1.heap.objs.size + 1, s1.heap.objs.size] → FpOk X pins H1 b := fun b hb => by
      have e' : b = s1.heap.objs.size + 1 ∨ b = s1.heap.objs.size := by simpa using hb
      have hle : s1.heap.objs.size ≤ b := by
        rcases e' with z | z
        · rw [z]; exact Nat.le_add_right _ _
        · rw [z]; exact Nat.le_refl _
      exact I1.fpOk hle (I1.hok.fresh hle)
    rcases q1 with ⟨hq, q⟩ | ⟨hq, q⟩
    · obtain ⟨its, rv, p', hz⟩ := I1.list hq
      refine call_enumerate_list p'.isList fun h' he hit hsz hk => wpAny_pyIter_enum he ?_
      have I2 : Inv X pins σ H1 { s1 with heap := h' } := I1.kept (t' := s1.toks) hk
      exact ⟨s1.heap.objs.size + 1, [s1.heap.objs.size + 1, s1.heap.objs.size], _, _, H1, rfl, I2, turn_enum a (s1.heap.objs.size + 1) s1.heap.objs.size, ⟨⟨.none, he⟩, hit, Nat.succ_ne_self _⟩, fresh2, q⟩
    · obtain ⟨its, rv, p', hz⟩ := I1.tuple hq
      have pT : s1.heap.IsTuple a its.toArray := p'
      refine pd_call_enumT pT fun h' he hit hsz hk => wpAny_pyIter_enum he ?_
      have I2 : Inv X pins σ H1 { s1 with heap := h' } := I1.kept (t' := s1.toks) hk
      exact ⟨s1.heap.objs.size + 1, [s1.heap.objs.size + 1, s1.heap.objs.size], _, _, H1, rfl, I2, turn_enumT a (s1.heap.objs.size + 1) s1.heap.objs.size xs.length, ⟨Nat.zero_le _, ⟨.none, he⟩, hit, Nat.succ_ne_self _⟩, fresh2, q⟩
end Pd
set_option maxHeartbeats 2000000
namespace Pd
open PySem PySem.Spec PyProof.Rows L2
def nsOkB (a : Addr) (K : PySem.W.Frag) : Bool := match K.lookup a with
  | some ⟨_, _, .dict es _, _⟩ => es.toList.all fun e => match e.key with | .str _ _ => true | _ => false
  | _ => false
def nsNoB (a : Addr) (x : Str) (K : PySem.W.Frag) : Bool := match PySem.W.nsIn K a x with
  | some none => true
  | _ => false
def mainB (K : PySem.W.Frag) : Bool := match PySem.W.nsIn K mainGlobals "__builtins__" with
  | some (some (.ref bm)) => (match K.lookup bm with
    | some ob => (match ob.cls with | .type n => n == "module" | _ => false) && decide (ob.dict = some builtinsNs)
    | none => false)
  | _ => false
def seerB (K : PySem.W.Frag) : Bool := (nsOkB cStatics K && (nsNoB cStatics "sys.audit-hooks" K && nsNoB cStatics "sys.dict" K)) && ((nsOkB sysModules K && nsNoB sysModules "_pylong" K) && mainB K)
theorem nsOkB_ok {a : Addr} {K : PySem.W.Frag} {h : Heap} (X : K.In h) (c : nsOkB a K = true) : ∃ m, h.Ns a m := by
  unfold nsOkB at c
  split at c
  · rename_i cl d es n sl q
    refine ⟨fun x => nsFind es x, _, es, n, X _ _ q, rfl, fun e he => ?_, fun _ => rfl⟩
    have := List.all_eq_true.mp c e (by simpa using he)
    split at this
    · rename_i x t hk; exact ⟨x, t, hk⟩
    · cases this
  · cases c
theorem nsNoB_ok {a : Addr} {x : Str} {K : PySem.W.Frag} {h : Heap} {m : Str → Option Value} (X : K.In h) (G : h.Ns a m) (c : nsNoB a x K = true) : m x = none := by
  have e : PySem.W.nsIn K a x = some none := by
    unfold nsNoB at c
    split at c
    · assumption
    · cases c
  obtain ⟨o, es, ep, ho, hd, _, hf⟩ := G
  unfold PySem.W.nsIn at e
  split at e
  · rename_i c d es' n' sl q
    have := X _ _ q
    rw [ho] at this
    cases this
    cases hd
    split at e
    · cases e
    · rename_i hn
      rw [← hf]
      unfold nsFind findBy
      rw [← Array.find?_toList, hn]
      rfl
  · cases e
theorem seerB_ok {K : PySem.W.Frag} {h : Heap} {mg : Str → Option Value} (X : K.In h) (G : h.Ns mainGlobals mg) (hb : ∃ mb, h.Ns builtinsNs mb ∧ ∀ x : Str, x ≠ "__name__" → mb x = bootBuiltins x) (c : seerB K = true) : h.NoSeer := by
  unfold seerB at c
  simp only [Bool.and_eq_true] at c
  obtain ⟨⟨c1, c2, c3⟩, ⟨c4, c5⟩, c6⟩ := c
  obtain ⟨m1, g1⟩ := nsOkB_ok X c1
  obtain ⟨m2, g2⟩ := nsOkB_ok X c4
  refine ⟨⟨m1, g1, nsNoB_ok X g1 c2, nsNoB_ok X g1 c3⟩, ⟨m2, g2, nsNoB_ok X g2 c5⟩, hb, ?_⟩
  unfold mainB at c6
  split at c6
  · rename_i bm e
    split at c6
    · rename_i ob q
      rw [Bool.and_eq_true] at c6
      obtain ⟨a1, a2⟩ := c6
      refine ⟨mg, bm, ob, G, PySem.W.mg_of X G e, X _ _ q, ?_, of_decide_eq_true a2⟩
      split at a1
      · rename_i n hn
        rw [hn, beq_iff_eq.mp a1]
      · cases a1
    · cases c6
  · cases c6
structure Dvd (X : Cx) : Prop where
  seer : seerB X.K = true
  tree : X.prog.given.tree = none
  room : Room 32 X.A
  stk : ∃ env l, X.stack = env :: l ∧ env.scope.isGenerator = false ∧ env.scope.isCoroutine = false ∧ env.builtins = builtinsNs ∧ env.globals = mainGlobals
theorem op_fdivN {X : Cx} (D : Dvd X) : OpR X (binaryOp .FloorDiv) (rI (fun i j => divOk i j = true) fun i j => .int (i.fdiv j)) := by
  intro pins s σ H x y v u Q I rx ry h
  obtain ⟨i, j, rfl, rfl, hc, q⟩ := h
  obtain ⟨t, rfl⟩ := rx
  obtain ⟨t', rfl⟩ := ry
  have hn : s.heap.NoSeer := by
    obtain ⟨mb, hb1, hb2⟩ := I.ok.mod.blt
    exact seerB_ok I.kIn (I.ok.mod.glob.keeps I.bk) ⟨mb, hb1.keeps I.bk, hb2⟩ D.seer
  obtain ⟨env, l, e1, e2, e3, e4, e5⟩ := D.stk
  have sa : SeerAt (model X.prog X.w) X.A s.heap := SeerAt.of (env := env) (l := l) hn D.tree (by rw [I.ok.frames, e1]) e2 e3 e4 e5
  refine PyProof.Rows.floordiv_int (of_decide_eq_true hc) ?_ (.inr (PylongRoom.of I.nolimit ?_ sa))
  · exact ⟨.int (i.fdiv j), H, I.tok _, ⟨_, rfl⟩, q⟩
  · have := D.room.dp
    have e : Builtin.pylongFrames = 100 := rfl
    omega
theorem pd_div {X : Cx} {T : Tab} {W : WX} {a b : Expr} {fa fb : FE} {pos : Pos} (D : Dvd X) (ha : PD X T W a fa) (hb : PD X T W b fb) : PD X T W (.BinOp a .FloorDiv b pos) (e2 gDiv fa fb) := pd_op (op_fdivN D) (o2_I fun _ _ h => h) ha hb
theorem dv_fn {P : Program} {w : World} {K : PySem.W.Frag} {mg : Str → Option Value} {base : Heap} {N ps : List Str} {qual : Str} {scope : Scope} {f : Addr} {cd : Value} {A : Around} {outer : List Env} {s : Shared} {H : Hp} {E : XK} {k : Nat}
    (ht : P.given.tree = none) (hs : seerB K = true) (S : FnScope N ps scope) (hr : Room k (A.deeper (envOfC qual scope s.heap.objs.size f cd))) (hk : 32 ≤ k) : Dvd (cxOf (L2.CX P w) P w K mg base N qual scope f cd A outer s H E) :=
  ⟨hs, ht, hr.mono hk, _, _, rfl, S.gen, S.co, rfl, rfl⟩
theorem Dvd.blk {X : Cx} (D : Dvd X) (s : Shared) (H : Hp) (scope : Scope) (env : Env) (fp : List Addr) : Dvd (X.blk s H scope env fp) := ⟨D.seer, D.tree, D.room, D.stk⟩
end Pd
set_option maxHeartbeats 2000000
namespace Pd
open PySem PySem.Spec PyProof.Rows L2 RT RZ
def enD (i : Nat) : List Dt → List Dt
  | [] => []
  | d :: ds => .tup [.int i, d] :: enD (i + 1) ds
theorem enD_length (i : Nat) (ds : List Dt) : (enD i ds).length = ds.length := by
  induction ds generalizing i with
  | nil => rfl
  | cons d ds ih => simp [enD, ih]
theorem enD_get {k : Nat} : ∀ {ds : List Dt} {i : Nat} {e : Dt}, (enD k ds)[i]? = some e → ∃ d, ds[i]? = some d ∧ e = .tup [.int (k + i : Nat), d]
  | [], _, _, h => by simp [enD] at h
  | d :: ds, 0, e, h => by simp [enD] at h; exact ⟨d, rfl, by rw [← h]; simp⟩
  | d :: ds, i + 1, e, h => by
    obtain ⟨d', h1, h2⟩ := enD_get (k := k + 1) (ds := ds) (i := i) (e := e) (by simpa [enD] using h)
    exact ⟨d', by simpa using h1, by rw [h2, show k + 1 + i = k + (i + 1) by omega]⟩
section
variable {K : PySem.W.Frag} {T : Tab} {Z1 H1 : Hp}
theorem itD_enL {a : Addr} {vs : List V} {ds : List Dt} (h : SqL K Z1 a vs) (r : Reps K T Z1 ds vs) : ItD K T (Ite K a) Z1 H1 (enD 0 ds) := by
  refine ⟨fun i e Z H l1 l2 he => ?_, fun i Z H l1 l2 hi => ⟨vs, l2.seqL (l1.seqL h), by rw [r.length]; rwa [enD_length] at hi⟩⟩
  obtain ⟨d, hd, rfl⟩ := enD_get he
  obtain ⟨w, g1, g2⟩ := r.get hd
  refine ⟨⟨vs, w, l2.seqL (l1.seqL h), g1⟩, fun x H' ⟨P, y, e1, e2, e3, e4⟩ => ?_⟩
  subst e1 e3
  have := e4 vs (l2.seqL (l1.seqL h))
  rw [g1] at this
  cases this
  refine ⟨upd Z P (.tup [.int (i : Nat), w]), Ext4.newZ l2 e2, ?_⟩
  simp only [Rep]
  refine ⟨P, _, rfl, .of upd_same, .cons (by simp only [Rep, Nat.zero_add]) (.cons (g2.mono (l1.trans (Le.upd (l2.free e2)))) .nil)⟩
theorem itD_enT {a : Addr} {vs : List V} {ds : List Dt} (h : SqT K Z1 a vs) (r : Reps K T Z1 ds vs) : ItD K T (IteT K a vs.length) Z1 H1 (enD 0 ds) := by
  refine ⟨fun i e Z H l1 l2 he => ?_, fun i Z H l1 l2 hi => ⟨by rw [r.length]; rwa [enD_length] at hi, vs, rfl, l2.seqT (l1.seqT h)⟩⟩
  obtain ⟨d, hd, rfl⟩ := enD_get he
  obtain ⟨w, g1, g2⟩ := r.get hd
  refine ⟨⟨(List.getElem?_eq_some_iff.mp g1).1, vs, w, rfl, l2.seqT (l1.seqT h), g1⟩, fun x H' ⟨P, y, e1, e2, e3, e4⟩ => ?_⟩
  subst e1 e3
  have := e4 vs (l2.seqT (l1.seqT h))
  rw [g1] at this
  cases this
  refine ⟨upd Z P (.tup [.int (i : Nat), w]), Ext4.newZ l2 e2, ?_⟩
  simp only [Rep]
  refine ⟨P, _, rfl, .of upd_same, .cons (by simp only [Rep, Nat.zero_add]) (.cons (g2.mono (l1.trans (Le.upd (l2.free e2)))) .nil)⟩
end
def zipD : List Dt → List Dt → List Dt
  | d :: ds, e :: es => .tup [d, e] :: zipD ds es
  | _, _ => []
theorem zipD_length : ∀ (ds es : List Dt), (zipD ds es).length = min ds.length es.length
  | [], _ => by simp [zipD]
  | _ :: _, [] => by simp [zipD]
  | d :: ds, e :: es => by simp [zipD, zipD_length ds es]
theorem zipD_get : ∀ {ds es : List Dt} {i : Nat} {p : Dt}, (zipD ds es)[i]? = some p → ∃ d e, ds[i]? = some d ∧ es[i]? = some e ∧ p = .tup [d, e]
  | [], _, _, _, h => by simp [zipD] at h
  | _ :: _, [], _, _, h => by simp [zipD] at h
  | d :: ds, e :: es, 0, p, h => by simp [zipD] at h; exact ⟨d, e, rfl, rfl, h.symm⟩
  | d :: ds, e :: es, i + 1, p, h => by
    obtain ⟨d', e', h1, h2, h3⟩ := zipD_get (ds := ds) (es := es) (i := i) (p := p) (by simpa [zipD] using h)
    exact ⟨d', e', by simpa using h1, by simpa using h2, h3⟩
section
variable {K : PySem.W.Frag} {T : Tab} {Z1 H1 : Hp}
theorem itD_zipL {a b : Addr} {vs ws : List V} {ds es : List Dt} (h : SqL K Z1 a vs) (r : Reps K T Z1 ds vs) (h' : SqL K Z1 b ws) (r' : Reps K T Z1 es ws) : ItD K T (Itz K a b) Z1 H1 (zipD ds es) := by
  refine ⟨fun i e Z H l1 l2 he => ?_, fun i Z H l1 l2 hi => ⟨vs, ws, l2.seqL (l1.seqL h), l2.seqL (l1.seqL h'), by rw [r.length, r'.length]; rw [zipD_length] at hi; omega⟩⟩
  obtain ⟨d, d2, hd, hd2, rfl⟩ := zipD_get he
  obtain ⟨w, g1, g2⟩ := r.get hd
  obtain ⟨w2, g3, g4⟩ := r'.get hd2
  refine ⟨⟨vs, ws, w, w2, l2.seqL (l1.seqL h), l2.seqL (l1.seqL h'), g1, g3⟩, fun x H' ⟨P, y, y2, e1, e2, e3, e4, e5⟩ => ?_⟩
  subst e1 e3
  have q1 := e4 vs (l2.seqL (l1.seqL h))
  have q2 := e5 ws (l2.seqL (l1.seqL h'))
  rw [g1] at q1; cases q1
  rw [g3] at q2; cases q2
  refine ⟨upd Z P (.tup [w, w2]), Ext4.newZ l2 e2, ?_⟩
  simp only [Rep]
  exact ⟨P, _, rfl, .of upd_same, .cons (g2.mono (l1.trans (Le.upd (l2.free e2)))) (.cons (g4.mono (l1.trans (Le.upd (l2.free e2)))) .nil)⟩
theorem itD_zipT {a b : Addr} {vs ws : List V} {ds es : List Dt} (h : SqT K Z1 a vs) (r : Reps K T Z1 ds vs) (h' : SqT K Z1 b ws) (r' : Reps K T Z1 es ws) : ItD K T (ItzT K a b) Z1 H1 (zipD ds es) := by
  refine ⟨fun i e Z H l1 l2 he => ?_, fun i Z H l1 l2 hi => ⟨vs, ws, l2.seqT (l1.seqT h), l2.seqT (l1.seqT h'), by rw [r.length, r'.length]; rw [zipD_length] at hi; omega⟩⟩
  obtain ⟨d, d2, hd, hd2, rfl⟩ := zipD_get he
  obtain ⟨w, g1, g2⟩ := r.get hd
  obtain ⟨w2, g3, g4⟩ := r'.get hd2
  refine ⟨⟨vs, ws, w, w2, l2.seqT (l1.seqT h), l2.seqT (l1.seqT h'), g1, g3⟩, fun x H' ⟨P, y, y2, e1, e2, e3, e4, e5⟩ => ?_⟩
  subst e1 e3
  have q1 := e4 vs (l2.seqT (l1.seqT h))
  have q2 := e5 ws (l2.seqT (l1.seqT h'))
  rw [g1] at q1; cases q1
  rw [g3] at q2; cases q2
  refine ⟨upd Z P (.tup [w, w2]), Ext4.newZ l2 e2, ?_⟩
  simp only [Rep]
  exact ⟨P, _, rfl, .of upd_same, .cons (g2.mono (l1.trans (Le.upd (l2.free e2)))) (.cons (g4.mono (l1.trans (Le.upd (l2.free e2)))) .nil)⟩
end
def iEnS (f : FE) : FIt := fun ρ => bnd (f ρ) fun r => bnd (frz r) fun d => match asSeq d with
  | some ds => some (.ok (enD 0 ds))
  | none => none
def zip2 : Dt → Dt → Option (List Dt)
  | .lst ds, .lst es => some (zipD ds es)
  | .tup ds, .tup es => some (zipD ds es)
  | _, _ => none
def iZipS (f g : FE) : FIt := fun ρ => bnd (f ρ) fun r => bnd (frz r) fun d => bnd (g ρ) fun r' => bnd (frz r') fun e => match zip2 d e with
  | some ds => some (.ok ds)
  | none => none
section
variable {X : Cx} {T : Tab} {W : WX} {e e2 : Expr} {f f2 : FE} {p pos tpos : Pos} {elts : List Expr} {kk : Nat}
theorem pdi_en (hm : X.mg "enumerate" = none) (he : PD X T W e f) (hg : Gl X "enumerate" := by rfl) (hs : starEach [e] X.env = [(false, eval e X.env)] := by rfl) : PDI X T W (.Tuple elts kk tpos) (.Call (.Name "enumerate" p) [e] [] pos) (iEnS f) := by
  refine PI.imp (pi_enumA hg hm (pa_cons he pa_nil hs) hs) fun σ H R ⟨H0, Z0, env, Z, out, h, s, p⟩ => ?_
  unfold iEnS at h
  rcases bnd_cases h with ⟨c, ds, q1, q2⟩ | ⟨r, q1, q2⟩
  · exact ⟨H0, Z0, env, Z, _, q1, s, fun r q => (nomatch q), fun c' ds' q cls d Z' H' e x => by cases q; exact p.ex _ _ q2 cls d Z' H' e x⟩
  · rcases bnd_cases q2 with ⟨c, ds, q3, q4⟩ | ⟨d, q3, q4⟩
    · cases r <;> cases q3
    · refine ⟨H0, Z0, env, Z, _, q1, s, fun r' q v Z' H' x rr => ?_, fun c' ds' q => (nomatch q)⟩
      cases q
      obtain ⟨Z2, x2, _, rd⟩ := rr.freeze q3 x
      cases d with
      | lst ds =>
        cases q4
        simp only [Rep] at rd
        obtain ⟨q, vs, rfl, g1, g2⟩ := rd
        exact ⟨q, vs, rfl, .inl ⟨x2.zh.seqL g1, p.ok _ rfl _ Z2 H' x2 (itD_enL g1 g2)⟩⟩
      | tup ds =>
        cases q4
        simp only [Rep] at rd
        obtain ⟨q, vs, rfl, g1, g2⟩ := rd
        exact ⟨q, vs, rfl, .inr ⟨x2.zh.seqT g1, p.ok _ rfl _ Z2 H' x2 (itD_enT g1 g2)⟩⟩
      | _ => cases q4
theorem pdi_zip (hm : X.mg "zip" = none) (he : PD X T W e f) (he2 : PD X T W e2 f2) (hg : Gl X "zip" := by rfl) (hs : starEach [e, e2] X.env = (false, eval e X.env) :: starEach [e2] X.env := by rfl) (hs2 : starEach [e2] X.env = (false, eval e2 X.env) :: starEach [] X.env := by rfl) (hpl : (backTo pos (starEach [e2] X.env)).any (·.1) = false := by rfl) : PDI X T W (.Tuple elts kk tpos) (.Call (.Name "zip" p) [e, e2] [] pos) (iZipS f f2) := by
  refine PI.imp (pi_zipA hg hm (pa_cons he (pa_cons he2 pa_nil hs2) hs) hs hpl) fun σ H R ⟨H0, Z0, env, Z, out, h, s, p⟩ => ?_
  unfold iZipS at h
  rcases bnd_cases h with ⟨c, ds, q1, q2⟩ | ⟨r, q1, q2⟩
  · exact ⟨H0, Z0, env, Z, _, q1, s, fun r q => (nomatch q), fun c' ds' q cls d Z' H' e x => by cases q; exact p.ex _ _ q2 cls d Z' H' e x⟩
  · rcases bnd_cases q2 with ⟨c, ds, q3, q4⟩ | ⟨d, q3, q4⟩
    · cases r <;> cases q3
    · refine ⟨H0, Z0, env, Z, _, q1, s, fun r' q v Z1 H1 x rr => ?_, fun c' ds' q => (nomatch q)⟩
      cases q
      obtain ⟨Z2, x2, _, rd⟩ := rr.freeze q3 x
      have s2 := s.step x2
      have p2 := p.step x2
      rcases bnd_cases q4 with ⟨c, ds, q5, q6⟩ | ⟨r2, q5, q6⟩
      · exact ⟨H0, Z0, env, Z2, _, q5, s2, fun r q => (nomatch q), fun c' ds' q cls d Z' H' e x => by cases q; exact p2.ex _ _ q6 cls d Z' H' e x⟩
      · rcases bnd_cases q6 with ⟨c, ds, q7, q8⟩ | ⟨d2, q7, q8⟩
        · cases r2 <;> cases q7
        · refine ⟨H0, Z0, env, Z2, _, q5, s2, fun r' q v2 Z3 H3 x3 rr2 => ?_, fun c' ds' q => (nomatch q)⟩
          cases q
          obtain ⟨Z4, x4, _, rd2⟩ := rr2.freeze q7 x3
          have rd' := rd.mono x4.zz
          cases d <;> cases d2 <;> first | (cases q8; done) | skip
          · cases q8
            simp only [Rep] at rd' rd2
            obtain ⟨a, vs, rfl, g1, g2⟩ := rd'
            obtain ⟨b, ws, rfl, g3, g4⟩ := rd2
            exact ⟨a, b, vs, ws, rfl, .inr ⟨x4.zh.seqT g1, x4.zh.seqT g3, p2.ok _ rfl _ Z4 H3 x4 (itD_zipT g1 g2 g3 g4)⟩⟩
          · cases q8
            simp only [Rep] at rd' rd2
            obtain ⟨a, vs, rfl, g1, g2⟩ := rd'
            obtain ⟨b, ws, rfl, g3, g4⟩ := rd2
            exact ⟨a, b, vs, ws, rfl, .inl ⟨x4.zh.seqL g1, x4.zh.seqL g3, p2.ok _ rfl _ Z4 H3 x4 (itD_zipL g1 g2 g3 g4)⟩⟩
end
mutual
def pyD : Dt → Option PyData
  | .non => some .none
  | .bl b => some (.bool b)
  | .int i => some (.int i)
  | .str s => some (.str s)
  | .ty _ => none
  | .tup ds => (pyDs ds).map .tuple
  | .lst ds => (pyDs ds).map .list
  | .ins _ _ => none
def pyDs : List Dt → Option (List PyData)
  | [] => some []
  | d :: ds => match pyD d, pyDs ds with
    | some x, some xs => some (x :: xs)
    | _, _ => none
end
section
variable {K : PySem.W.Frag} {T : Tab} {Z H : Hp}
mutual
theorem pyD_ok (zh : Le Z H) : ∀ {d : Dt} {v : V} {x : PyData}, Rep K T Z d v → pyD d = some x → Dp K H v x
  | .non, _, _, h, e => by simp only [Rep] at h; subst h; cases e; exact .non
  | .bl b, _, _, h, e => by simp only [Rep] at h; subst h; cases e; exact .bl b
  | .int i, _, _, h, e => by simp only [Rep] at h; subst h; cases e; exact .int i
  | .str i, _, _, h, e => by simp only [Rep] at h; subst h; cases e; exact .str i
  | .ty _, _, _, h, e => by cases e
  | .ins _ _, _, _, h, e => by cases e
  | .tup ds, _, _, h, e => by
    simp only [Rep] at h
    obtain ⟨p, vs, rfl, h1, h2⟩ := h
    unfold pyD at e
    obtain ⟨xs, e1, rfl⟩ := Option.map_eq_some_iff.mp e
    exact .tup (zh.seqT h1) (pyDs_ok zh h2 e1)
  | .lst ds, _, _, h, e => by
    simp only [Rep] at h
    obtain ⟨p, vs, rfl, h1, h2⟩ := h
    unfold pyD at e
    obtain ⟨xs, e1, rfl⟩ := Option.map_eq_some_iff.mp e
    exact .lst (zh.seqL h1) (pyDs_ok zh h2 e1)
theorem pyDs_ok (zh : Le Z H) : ∀ {ds : List Dt} {vs : List V} {xs : List PyData}, Reps K T Z ds vs → pyDs ds = some xs → DpAll K H vs xs
  | [], _, _, h, e => by rw [h.nil_inv]; cases e; exact .nil
  | d :: ds, _, _, h, e => by
    obtain ⟨v, r, rfl, h1, h2⟩ := h.cons_inv
    unfold pyDs at e
    split at e
    · rename_i x xs e1 e2
      cases e
      exact .cons (pyD_ok zh h1 e1) (pyDs_ok zh h2 e2)
    · cases e
end
def pyR : Rs → Option PyData
  | .fro d => pyD d
  | .own ds => (pyDs ds).map .list
  | .bor ds => (pyDs ds).map .list
theorem pyR_ok {B : Hp} (zh : Le Z H) {r : Rs} {v : V} {x : PyData} (h : RRep K T B Z H v r) (e : pyR r = some x) : Dp K H v x := by
  cases r with
  | fro d => exact pyD_ok zh h e
  | own ds =>
    obtain ⟨xs, e1, rfl⟩ := Option.map_eq_some_iff.mp e
    obtain ⟨p, vs, rfl, _, h1, _, h2⟩ := h
    exact .lst (.of h1) (pyDs_ok zh h2 e1)
  | bor ds =>
    obtain ⟨xs, e1, rfl⟩ := Option.map_eq_some_iff.mp e
    obtain ⟨p, vs, rfl, h1, h2⟩ := h
    exact .lst (.of h1) (pyDs_ok zh h2 e1)
def eqDt (x y : Rs) : Option Bool := match pyR x, pyR y with
  | some a, some b => if SeqAt.shaped a = true ∧ SeqAt.shaped b = true then some (PyData.eqv a b) else none
  | _, _ => none
def gEqD : G2 := fun x y => match eqDt x y with
  | some b => vB b
  | none => none
theorem eqDt_inv {x y : Rs} {b : Bool} (h : eqDt x y = some b) : ∃ a c, pyR x = some a ∧ pyR y = some c ∧ SeqAt.shaped a = true ∧ SeqAt.shaped c = true ∧ b = PyData.eqv a c := by
  unfold eqDt at h
  split at h
  · rename_i a c h1 h2
    split at h
    · rename_i hs
      cases h
      exact ⟨a, c, h1, h2, hs.1, hs.2, rfl⟩
    · cases h
  · cases h
end
section
variable {K : PySem.W.Frag} {T : Tab} {W : WX}
theorem o2_eqD : Op2 K T W (rEqD K) gEqD := fun σ B Z H x y v w out Q zh r1 r2 hg p => by
  unfold gEqD at hg
  split at hg
  · rename_i b hb
    cases hg
    obtain ⟨a, c, h1, h2, h3, h4, rfl⟩ := eqDt_inv hb
    exact ⟨a, c, pyR_ok zh r1 h1, pyR_ok zh r2 h2, h3, h4, p.fro zh (by simp only [Rep])⟩
  · cases hg
def gInD : G2 := fun x y => match pyR x, pyR y with
  | some a, some (.list bs) => if SeqAt.shaped a = true ∧ SeqAt.shaped (.list bs) = true then vB (bs.any fun z => PyData.eqv z a) else none
  | _, _ => none
theorem o2_inD : Op2 K T W (rInD K) gInD := fun σ B Z H x y v w out Q zh r1 r2 hg p => by
  unfold gInD at hg
  split at hg
  · rename_i a bs h1 h2
    split at hg
    · rename_i hs
      cases hg
      exact ⟨a, bs, pyR_ok zh r1 h1, pyR_ok zh r2 h2, hs.1, hs.2, p.fro zh (by simp only [Rep])⟩
    · cases hg
  · cases hg
end
end Pd
set_option maxHeartbeats 2000000
namespace Pd
open PySem PySem.Spec L2
section
variable {X : Cx} {T : Tab} {W : WX} {k n : Nat} {fn : Fn} {x m : Str} {p xp apos pos : Pos} {e : Expr} {es : List Expr} {fa : FA}
end
theorem Vals.app : ∀ {vs : List V} {us : List Value} {zs : List V} {ws : List Value}, Vals vs us → Vals zs ws → Vals (vs ++ zs) (us ++ ws)
  | _, _, _, _, .nil, h => h
  | _, _, _, _, .cons r t, h => .cons r (Vals.app t h)
section
variable {K : PySem.W.Frag} {T : Tab} {x qual : Str} {params : Arguments} {body : List Stmt} {scope : Scope} {kws : List (Str × V)} {f : Addr} {fd : FuncData} {ps ks : List Str} {n : Nat}
end
section
variable {X : Cx} {T : Tab} {W : WX} {k n : Nat} {fn : Fn} {x : Str} {ks : List Str} {p pos : Pos} {e : Expr} {es : List Expr} {kws : List Keyword} {fa fk : FA}
end
section
variable {X : Cx} {T : Tab} {W : WX} {p pos : Pos} {a b : Expr} {fa fb : FE}
theorem units64 {k : Nat} {A : Around} (hr : Room k A) : A.units + 64 < cLine := by have := hr.un; omega
theorem units65 {k : Nat} {A : Around} (hr : Room k A) : A.units + 65 < cLine := by have := hr.un; omega
theorem pd_eqD {k : Nat} (hr : Room k X.A) (ha : PD X T W a fa) (hb : PD X T W b fb) : PD X T W (.Compare a [.Eq] [b] pos) (e2 gEqD fa fb) := pd_cmp (op_eqD (units64 hr)) o2_eqD ha hb (nomark _)
theorem pdt_inD {k : Nat} (hr : Room k X.A) (ha : PD X T W a fa) (hb : PD X T W b fb) (hm : behindInMarks .In b = false := by rfl) : PDT X T W (.Compare a [.In] [b] pos) (tB (e2 gInD fa fb)) := pdt_cmp (op_inD (units65 hr)) o2_inD ha hb hm
end
end Pd
set_option maxHeartbeats 2000000
namespace Pd
open PySem PySem.Spec L2
section
variable {X : Cx} {T : Tab} {W : WX} {x : Str} {np pos pos' : Pos} {body suite : List Stmt} {b₀ : Stmt} {F G : FS} {u : Addr}
end
end Pd
set_option maxHeartbeats 2000000
namespace Pd
open PySem PySem.Spec PyProof.Rows L2 PySem.W
section
variable {X : Cx} {k : Nat}
end
section
variable {X : Cx} {T : Tab} {W : WX} {p pos : Pos} {a b : Expr} {fa fb : FE} {k : Nat}
end
end Pd
set_option maxHeartbeats 2000000
namespace Pd
open PySem PySem.Spec L2
section
variable {X : Cx} {T : Tab} {W : WX} {i j k : Nat} {x y : Str} {xp yp apos cpos pos tpos : Pos} {es : List Expr}
end
end Pd
set_option maxHeartbeats 2000000
namespace Pd
open PySem PySem.Spec L2
mutual
def noL : Dt → Bool
  | .lst _ => false
  | .tup ds => noLs ds
  | .ins _ ds => noLs ds
  | _ => true
def noLs : List Dt → Bool
  | [] => true
  | d :: ds => noL d && noLs ds
end
def noR : Rs → Bool
  | .fro d => noL d
  | .own ds => noLs ds
  | .bor _ => false
def cutZ (Z : Hp) (q : Addr) : Hp := fun a => if a = q then none else Z a
theorem cutZ_ne {Z : Hp} {q a : Addr} (h : a ≠ q) : cutZ Z q a = Z a := if_neg h
theorem cutZ_same {Z : Hp} {q : Addr} : cutZ Z q q = none := if_pos rfl
section
variable {K : PySem.W.Frag} {T : Tab}
theorem cut_sqT {Z : Hp} {q p : Addr} {vs ws : List V} (hq : Z q = some (.lst vs)) (h : SqT K Z p ws) : SqT K (cutZ Z q) p ws := by
  rcases h with (h | ⟨o, h⟩) | h
  · have ne : p ≠ q := fun e => by rw [e, hq] at h; cases h
    exact .inl (.inl (by rw [cutZ_ne ne]; exact h))
  · have ne : p ≠ q := fun e => by rw [e, hq] at h; cases h
    exact .inl (.inr ⟨o, by rw [cutZ_ne ne]; exact h⟩)
  · exact .inr h
mutual
theorem cut_rep {Z : Hp} {q : Addr} {vs : List V} (hq : Z q = some (.lst vs)) : ∀ (d : Dt) (v : V), noL d = true → Rep K T Z d v → Rep K T (cutZ Z q) d v
  | .non, v, _, h => by simp only [Rep] at h ⊢; exact h
  | .bl _, v, _, h => by simp only [Rep] at h ⊢; exact h
  | .int _, v, _, h => by simp only [Rep] at h ⊢; exact h
  | .str _, v, _, h => by simp only [Rep] at h ⊢; exact h
  | .ty _, v, _, h => by simp only [Rep] at h ⊢; exact h
  | .lst _, v, n, _ => by simp [noL] at n
  | .tup ds, v, n, h => by
    simp only [Rep] at h ⊢
    obtain ⟨p, ws, rfl, h1, h2⟩ := h
    exact ⟨p, ws, rfl, cut_sqT hq h1, cut_reps hq ds ws (by simpa [noL] using n) h2⟩
  | .ins c ds, v, n, h => by
    simp only [Rep] at h ⊢
    obtain ⟨p, dx, ws, rfl, h1, h2, h3⟩ := h
    have ne : p ≠ q := fun e => by rw [e, hq] at h1; cases h1
    exact ⟨p, dx, ws, rfl, by rw [cutZ_ne ne]; exact h1, h2, cut_reps hq ds ws (by simpa [noL] using n) h3⟩
theorem cut_reps {Z : Hp} {q : Addr} {vs : List V} (hq : Z q = some (.lst vs)) : ∀ (ds : List Dt) (ws : List V), noLs ds = true → Reps K T Z ds ws → Reps K T (cutZ Z q) ds ws
  | [], ws, _, h => by simp only [Reps] at h ⊢; exact h
  | d :: ds, ws, n, h => by
    simp only [Reps] at h ⊢
    simp only [noLs, Bool.and_eq_true] at n
    obtain ⟨v, r, rfl, h1, h2⟩ := h
    exact ⟨v, r, rfl, cut_rep hq d v n.1 h1, cut_reps hq ds r n.2 h2⟩
end
theorem cut_ext {Z H Z' H' : Hp} {q : Addr} {vs : List V} (zq : Z q = none) (hq : H q = some (.lst vs)) (e : Ext4 (upd Z q (.lst vs)) H Z' H') : Ext4 Z H (cutZ Z' q) H' ∧ Z' q = some (.lst vs) := by
  have h1 : Z' q = some (.lst vs) := e.zz q _ upd_same
  refine ⟨⟨e.hh, fun a o h => ?_, fun a o h => ?_, fun a h => ?_⟩, h1⟩
  · have ne : a ≠ q := fun z => by rw [z, zq] at h; cases h
    rw [cutZ_ne ne]
    exact e.zz a o (by rw [upd_ne ne]; exact h)
  · by_cases z : a = q
    · rw [z, cutZ_same] at h; cases h
    · rw [cutZ_ne z] at h; exact e.zh a o h
  · by_cases z : a = q
    · rw [z, cutZ_same, zq]
    · rw [cutZ_ne z, e.st a h, upd_ne z]
theorem cut_rr {B Z H : Hp} {q : Addr} {vs : List V} {v : V} {r : Rs} (hq : Z q = some (.lst vs)) (n : noR r = true) (h : RRep K T B Z H v r) : RRep K T B (cutZ Z q) H v r := by
  cases r with
  | fro d => exact cut_rep hq d v n h
  | own ds =>
    obtain ⟨p, ws, rfl, b, hp, zp, rs⟩ := h
    refine ⟨p, ws, rfl, b, hp, ?_, cut_reps hq ds ws n rs⟩
    by_cases z : p = q
    · rw [z]; exact cutZ_same
    · rw [cutZ_ne z]; exact zp
  | bor ds => cases n
theorem cut_xr {Z H : Hp} {q : Addr} {vs : List V} {cls : Value} {d : Option Addr} {c : Nat} {ds : List Dt} (hq : Z q = some (.lst vs)) (n : noLs ds = true) (h : XRep K T Z H cls d c ds) : XRep K T (cutZ Z q) H cls d c ds := by
  obtain ⟨h1, h2 | ⟨x, dd, f, v, rfl, h3, h4, h5, h6⟩⟩ := h
  · exact ⟨h1, .inl h2⟩
  · simp only [noLs, Bool.and_eq_true] at n
    exact ⟨h1, .inr ⟨x, dd, f, v, rfl, h3, h4, h5, cut_rep hq x v n.1 h6⟩⟩
theorem si_frz {H0 Z H : Hp} {Z0 : Hx} {env : PEnv} {σ : St} {i : Nat} {ds : List Dt} (s : SI K T H0 Z0 env σ Z H) (he : env[i]? = some (some (.own ds))) : ∃ q vs, H q = some (.lst vs) ∧ Z q = none ∧ SI K T H0 Z0 (env.set i (some (.fro (.lst ds)))) σ (upd Z q (.lst vs)) H := by
  obtain ⟨v, e1, q, vs, rfl, b, hq, zq, rs⟩ := s.cell i _ he
  have lz : Le Z (upd Z q (.lst vs)) := Le.upd zq
  have hl : i < env.length := (List.getElem?_eq_some_iff.mp he).1
  have oi : isOwnC env[i]? := by rw [he]; exact True.intro
  refine ⟨q, vs, hq, zq, s.ext.freeze b zq hq, by simp [s.len], fun j c hj => ?_, fun j k u hjk h1 h2 h3 h4 => ?_, fun j c' ds' v' hj h' => ?_⟩
  · by_cases e : i = j
    · subst e
      rw [List.getElem?_set_self hl] at hj
      cases hj
      refine ⟨_, e1, ?_⟩
      show Rep K T _ (.lst ds) _
      simp only [Rep]
      exact ⟨q, vs, rfl, .of upd_same, rs.mono lz⟩
    · rw [List.getElem?_set_ne e] at hj
      obtain ⟨u, h1, h2⟩ := s.cell j c hj
      refine ⟨u, h1, ?_⟩
      cases c with
      | fro d => exact Rep.mono lz h2
      | own es =>
        obtain ⟨q2, ws, rfl, b2, hq2, zq2, rs2⟩ := h2
        have ne : q2 ≠ q := fun z => by
          subst z
          exact s.sep i j _ e oi (by rw [hj]; exact True.intro) e1 h1
        exact ⟨q2, ws, rfl, b2, hq2, by rw [upd_ne ne]; exact zq2, rs2.mono lz⟩
      | mk c es =>
        obtain ⟨q2, dx, ws, rfl, b2, hq2, zq2, rs2⟩ := h2
        have ne : q2 ≠ q := fun z => by
          subst z
          exact s.sep i j _ e oi (by rw [hj]; exact True.intro) e1 h1
        exact ⟨q2, dx, ws, rfl, b2, hq2, by rw [upd_ne ne]; exact zq2, rs2.mono lz⟩
  · have nf : ∀ m : Nat, isOwnC ((env.set i (some (.fro (.lst ds))))[m]?) → isOwnC env[m]? := fun m hm => by
      by_cases z : i = m
      · subst z; exact oi
      · rw [List.getElem?_set_ne z] at hm; exact hm
    exact s.sep j k u hjk (nf j h1) (nf k h2) h3 h4
  · by_cases e : i = j
    · subst e
      rw [List.getElem?_set_self hl] at hj; cases hj
    · rw [List.getElem?_set_ne e] at hj; exact s.me j _ _ _ hj h'
end
def eBor (n : Nat) (f : FE) : FE := fun ρ => match ρ[n]? with
  | some (some (.own ds)) => match f (ρ.set n (some (.fro (.lst ds)))) with
    | some (.ok r) => if noR r then some (.ok r) else none
    | some (.ex c es) => if noLs es then some (.ex c es) else none
    | none => none
  | _ => f ρ
def tBor (n : Nat) (f : FT) : FT := fun ρ => match ρ[n]? with
  | some (some (.own ds)) => match f (ρ.set n (some (.fro (.lst ds)))) with
    | some (.ok r) => some (.ok r)
    | some (.ex c es) => if noLs es then some (.ex c es) else none
    | none => none
  | _ => f ρ
section
variable {X : Cx} {T : Tab} {W : WX} {e : Expr} {f : FE} {t : FT} {n : Nat}
theorem pd_bor (n : Nat) (h : PD X T W e f) : PD X T W e (eBor n f) := PE.imp h fun σ H Q ⟨H0, Z0, env, Z, out, h, s, p⟩ => by
  unfold eBor at h
  split at h
  · rename_i ds he
    obtain ⟨q, vs, hq, zq, s1⟩ := si_frz s he
    split at h
    · rename_i r hf
      split at h
      · rename_i hn
        cases h
        refine ⟨H0, Z0, _, _, _, hf, s1, fun r' e' v Z' H' x rr => ?_, fun c ds' e' => nomatch e'⟩
        cases e'
        obtain ⟨x1, z1⟩ := cut_ext zq hq x
        exact p.ok _ rfl v _ H' x1 (cut_rr z1 hn rr)
      · cases h
    · rename_i c es hf
      split at h
      · rename_i hn
        cases h
        refine ⟨H0, Z0, _, _, _, hf, s1, (fun r' e' => nomatch e'), fun c' ds' e' cls d Z' H' x xr => ?_⟩
        cases e'
        obtain ⟨x1, z1⟩ := cut_ext zq hq x
        exact p.ex _ _ rfl cls d _ H' x1 (cut_xr z1 hn xr)
      · cases h
    · cases h
  · exact ⟨H0, Z0, env, Z, out, h, s, p⟩
theorem pdt_bor (n : Nat) (h : PDT X T W e t) : PDT X T W e (tBor n t) := PT.imp h fun σ H Q ⟨H0, Z0, env, Z, out, h, s, p⟩ => by
  unfold tBor at h
  split at h
  · rename_i ds he
    obtain ⟨q, vs, hq, zq, s1⟩ := si_frz s he
    split at h
    · rename_i r hf
      cases h
      refine ⟨H0, Z0, _, _, _, hf, s1, fun r' e' Z' H' x => ?_, fun c ds' e' => nomatch e'⟩
      cases e'
      obtain ⟨x1, z1⟩ := cut_ext zq hq x
      exact p.ok _ rfl _ H' x1
    · rename_i c es hf
      split at h
      · rename_i hn
        cases h
        refine ⟨H0, Z0, _, _, _, hf, s1, (fun r' e' => nomatch e'), fun c' ds' e' cls d Z' H' x xr => ?_⟩
        cases e'
        obtain ⟨x1, z1⟩ := cut_ext zq hq x
        exact p.ex _ _ rfl cls d _ H' x1 (cut_xr z1 hn xr)
      · cases h
    · cases h
  · exact ⟨H0, Z0, env, Z, out, h, s, p⟩
end
end Pd
set_option maxHeartbeats 2000000
namespace Pd
open PySem PySem.Spec L2
section
variable {X : Cx} {T : Tab} {W : WX} {p pos : Pos} {a b : Expr} {fa fb : FE}
end
end Pd
set_option maxHeartbeats 2000000
namespace Pd
open PySem PySem.Spec L2
section
variable {X : Cx} {T : Tab} {W : WX} {i : Nat} {x n : Str} {np rp pos pos' : Pos} {E : Expr} {body stmts : List Stmt} {F G : FS} {u : Addr}
end
end Pd
set_option maxHeartbeats 2000000
namespace Pd
open PySem PySem.Spec L2
section
variable {X : Cx} {T : Tab} {k : Nat} {m : Str} {ops : Nat → Option Fn}
end
end Pd
set_option maxHeartbeats 2000000
namespace Pd
open PySem PySem.Spec L2
section
variable {X : Cx} {T : Tab} {W : WX} {x sn n : Str} {k : Nat} {fI : Addr} {fd : FuncData} {p pos rpos : Pos} {e : Expr} {fe : FE}
end
section
variable {X : Cx} {T : Tab} {W : WX} {x : Str} {k : Nat} {p pos rpos : Pos} {e : Expr} {fe : FE}
end
end Pd
set_option maxHeartbeats 2000000
namespace Pd
open PySem PySem.Spec L2
structure XS (K : PySem.W.Frag) (T : Tab) (i : Nat) (a : Addr) (cls : Value) (d : Option Addr) (c : Nat) (σ : St) (Z H : Hp) (env : PEnv) (x : Dt) : Prop where
  si : ∃ H0 Z0, SI K T H0 Z0 env σ Z H
  at_ : σ[i]? = some (some (.ref a))
  cl : cls = .ref (T.ca c)
  xd : ∃ dd f v, d = some dd ∧ T.fl c = [f] ∧ H dd = some (.xd [(f, v)]) ∧ Rep K T Z x v
theorem XS.step {K : PySem.W.Frag} {T : Tab} {i : Nat} {a : Addr} {cls : Value} {d : Option Addr} {c : Nat} {σ : St} {Z H Z' H' : Hp} {env : PEnv} {x : Dt} (h : XS K T i a cls d c σ Z H env x) (e : Ext4 Z H Z' H') : XS K T i a cls d c σ Z' H' env x := by
  obtain ⟨⟨H0, Z0, s⟩, h2, h3, dd, f, v, h4, h5, h6, h7⟩ := h
  exact ⟨⟨H0, Z0, s.step e⟩, h2, h3, dd, f, v, h4, h5, e.hh _ _ h6, h7.mono e.zz⟩
abbrev GX := Dt → PEnv → M Bool
section
variable {X : Cx} {T : Tab} {i c : Nat} {a : Addr} {cls : Value} {d : Option Addr} {g h : GX} {p q1 q2 pos : Pos} {e e' : Expr} {rest : List Expr} {b : Bool}
theorem XS.zh {K : PySem.W.Frag} {σ : St} {Z H : Hp} {env : PEnv} {x : Dt} (h : XS K T i a cls d c σ Z H env x) : Le Z H := by
  obtain ⟨⟨H0, Z0, s⟩, _⟩ := h
  exact s.zh
end
section
variable {X : Cx} {T : Tab} {i j c : Nat} {a : Addr} {oe : Obj} {pn : List (Addr × Obj)} {cls : Value} {d : Option Addr} {p q1 q2 pos apos : Pos} {en y fl f : Str}
end
section
variable {X : Cx} {T : Tab} {i c : Nat} {a : Addr} {oe : Obj} {pn : List (Addr × Obj)} {d : Option Addr} {p q1 q2 pos : Pos} {x y : Str} {b : Bool}
end
section
variable {X : Cx} {T : Tab} {W : WX} {i : Nat} {x n : Str} {np rp pos pos' : Pos} {E : Expr} {body : List Stmt} {F : FS} {u : Addr}
end
end Pd
set_option maxHeartbeats 2000000
namespace Pd
open PySem PySem.Spec PyProof.Rows L2 L2H
section
variable {K : PySem.W.Frag} {T : Tab}
end
section
variable {X : Cx} {T : Tab} {W : WX} {k n : Nat} {f : Addr} {fd : FuncData} {ps ks : List Str} {fn : Fn} {gD : List Dt → List Dt → List Dt}
end
section
variable {X : Cx} {T : Tab} {i k c : Nat} {a : Addr} {oe : Obj} {pn : List (Addr × Obj)} {cls : Value} {d : Option Addr} {p q1 pos apos : Pos} {en fl fm : Str} {fn : Fn}
end
end Pd
set_option maxHeartbeats 2000000
namespace Pd
open PySem PySem.Spec PySem.W L2
end Pd
set_option maxHeartbeats 2000000
namespace Pd
open PySem PySem.Spec L2
def hasB (m a : Nat) : Bool := Nat.beq (Nat.land (Nat.shiftRight m a) 1) 1
def addL {β : Type} : List Addr → Nat → List Addr → (Nat → List Addr → β) → β
  | [], m, acc, k => k m acc
  | r :: rs, m, acc, k => match hasB m r with
    | true => addL rs m acc k
    | false => addL rs (Nat.lor m (Nat.shiftLeft 1 r)) (r :: acc) k
def growQ {β : Type} (g : Addr → Option Obj) : List Addr → Nat → List Addr → (Nat → List Addr → β) → β
  | [], m, acc, k => k m acc
  | a :: as, m, acc, k => match g a with
    | some o => addL (He.refsD o) m acc fun m acc => growQ g as m acc k
    | none => growQ g as m acc k
def levQ (g : Addr → Option Obj) : Nat → List Addr → Nat → List Addr → List Addr
  | 0, _, _, all => all
  | n + 1, fr, m, all => growQ g fr m [] fun m new => levQ g n new m (all ++ new)
def asQ (g : Addr → Option Obj) (n : Nat) : List Addr := levQ g n [mainGlobals] (Nat.shiftLeft 1 mainGlobals) [mainGlobals]
def seeQ (n : Nat) (fa : List He.Fa) (fn : List DefP) (ex : PySem.W.Frag → Bool) (g : Addr → Option Obj) : AlP := lookP fa fn ex (He.frG g (cStatics :: sysModules :: asQ g n))
def hookQ (n : Nat) (fa : List He.Fa) (fn : List DefP) (ex : PySem.W.Frag → Bool) : PySem.W.Hook where
  α := AlP
  obs s := seeQ n fa fn ex s.heap.get?
  val _ := askP fn
  says _ h := ∃ K : PySem.W.Frag, K.In h ∧ TellsP fa fn ex K
  of _ _ e := ⟨_, He.frG_in, e⟩
  keeps _ _ _ q k := let ⟨K, h1, h2⟩ := q; ⟨K, h1.keeps k, h2⟩
theorem seeQ_eq {n : Nat} {fa : List He.Fa} {fn : List DefP} {ex : PySem.W.Frag → Bool} {g : Addr → Option Obj} {s : Shared} (h : ∀ a, g a = s.heap.get? a) : seeQ n fa fn ex g = (hookQ n fa fn ex).obs s := by
  rw [funext h]
  rfl
end Pd
set_option maxHeartbeats 2000000
namespace Pd
open PySem PySem.Spec L2
section
open PySem.W PySem.Calls PyProof.Rows Builtin
variable {prog : Program} {w : World} {A : Around} {E : Value → Shared → Prop} {s : Shared} {K : Frag} {x C L f : Addr} {h₀ : Heap} {m : Str → Option Value} {ox : Obj} {od : Option Obj} {b : Value}
end
end Pd
set_option maxHeartbeats 2000000
namespace Pd
open PySem PySem.SeqAt
open AutoSeq1 (wpAny_loadPart')
open MeetsSeq MeetsSeq2 MeetsSeq3 SeqRoads2
section
variable {prog : Program} {w : World} {A : Around} {R : Result → Shared → Prop}
end
end Pd
set_option maxHeartbeats 2000000
namespace Pd
open PySem PySem.Spec L2
section
variable {X : Cx} {A : Around} {pins : List (Addr × Obj)} {σ : St} {H : Hp} {s : Shared}
end
mutual
def same : Dt → Dt → Bool
  | .non, .non => true
  | .bl _, .bl _ => true
  | .int _, .int _ => true
  | .str _, .str _ => true
  | .tup xs, .tup ys => sames xs ys
  | .lst xs, .lst ys => sames xs ys
  | .ins c xs, .ins c' ys => decide (c = c') && sames xs ys
  | _, _ => false
def sames : List Dt → List Dt → Bool
  | x :: xs, y :: ys => same x y && sames xs ys
  | _, _ => true
end
section
variable {X : Cx} {T : Tab} {pins : List (Addr × Obj)} {σ : St} {H Z : Hp} {s : Shared}
end
section
variable {X : Cx} {T : Tab} {k : Nat} {ops : Nat → Option Fn} {pins : List (Addr × Obj)} {σ : St} {H Z : Hp} {s : Shared}
end
section
variable {X : Cx} {T : Tab} {W : WX} {k : Nat} {ops : Nat → Option Fn} {K : PySem.W.Frag} {a b : Expr} {fa fb : FE} {pos : Pos}
end
end Pd
set_option maxHeartbeats 2000000
namespace Pd
open PySem PySem.Spec PyProof.Rows L2 PySem.W
section
variable {X : Cx} {T : Tab} {W : WX} {n : Nat} {ks : List Str} {fn : List Dt → List Dt → M Rs} {x : Str} {p pos : Pos} {e : Expr} {es : List Expr} {kws : List Keyword} {fa fk : FA} {id : String}
end
section
variable {X : Cx} {T : Tab} {W : WX} {p pos : Pos} {e : Expr} {kws : List Keyword} {fa fk : FA} {k : Nat}
end
section
variable {X : Cx} {T : Tab} {W : WX} {k n : Nat} {fn : Fn} {x : Str} {p pos : Pos}
end
end Pd
set_option maxHeartbeats 2000000
namespace Pd
open PySem PySem.Spec L2
section
variable (ρ : PEnv) (d : Dt) (i j : Int) (a b : Bool) (f g h : FE) (F H : FS) (ds : List Dt) (n : Nat)
@[simp] theorem eC_eq : eC d ρ = some (.ok (.fro d)) := rfl
@[simp] theorem e2_eq (gg : G2) : e2 gg f g ρ = bnd (f ρ) fun x => bnd (g ρ) fun y => gg x y := rfl
@[simp] theorem e1_eq (gg : G1) : e1 gg f ρ = bnd (f ρ) gg := rfl
@[simp] theorem gAdd_eq : gAdd (.fro (.int i)) (.fro (.int j)) = vI (i + j) := rfl
@[simp] theorem gSub_eq : gSub (.fro (.int i)) (.fro (.int j)) = vI (i - j) := rfl
theorem gMul_eq : gMul (.fro (.int i)) (.fro (.int j)) = if mulOk i j then vI (i * j) else none := rfl
theorem gDiv_eq : gDiv (.fro (.int i)) (.fro (.int j)) = if divOk i j then vI (i.fdiv j) else none := rfl
theorem gMod_eq : gMod (.fro (.int i)) (.fro (.int j)) = if modOk i j then vI (i.fmod j) else none := rfl
theorem gPow_eq : gPow (.fro (.int i)) (.fro (.int j)) = if powOk i j then vI (i ^ j.toNat) else none := rfl
@[simp] theorem gLt_eq : gLt (.fro (.int i)) (.fro (.int j)) = vB (decide (i < j)) := rfl
@[simp] theorem gLe_eq : gLe (.fro (.int i)) (.fro (.int j)) = vB (decide (i ≤ j)) := rfl
@[simp] theorem gGt_eq : gGt (.fro (.int i)) (.fro (.int j)) = vB (decide (j < i)) := rfl
@[simp] theorem gGe_eq : gGe (.fro (.int i)) (.fro (.int j)) = vB (decide (j ≤ i)) := rfl
@[simp] theorem gNeg_eq : gNeg (.fro (.int i)) = vI (-i) := rfl
@[simp] theorem gMin_eq : gMin (.fro (.int i)) (.fro (.int j)) = vI (if j < i then j else i) := rfl
@[simp] theorem gMax_eq : gMax (.fro (.int i)) (.fro (.int j)) = vI (if i < j then j else i) := rfl
@[simp] theorem asI_eq : asI (.fro (.int i)) = some (.ok i) := rfl
@[simp] theorem asB_eq : asB (.fro (.bl a)) = some (.ok a) := rfl
@[simp] theorem tru_bl : tru (.fro (.bl a)) = some (.ok a) := rfl
@[simp] theorem tB_eq : tB f ρ = bnd (f ρ) asB := rfl
@[simp] theorem tTru_eq : tTru f ρ = bnd (f ρ) tru := rfl
@[simp] theorem tNot_eq (t : FT) : tNot t ρ = bnd (t ρ) fun b => some (.ok (!b)) := rfl
@[simp] theorem tAnd_eq (t u : FT) : tAnd t u ρ = bnd (t ρ) fun b => if b then u ρ else some (.ok false) := rfl
@[simp] theorem tOr_eq (t u : FT) : tOr t u ρ = bnd (t ρ) fun b => if b then some (.ok true) else u ρ := rfl
@[simp] theorem eAnd_eq : eAnd f g ρ = bnd (f ρ) fun r => bnd (asB r) fun b => if b then g ρ else vB false := rfl
@[simp] theorem eOr_eq : eOr f g ρ = bnd (f ρ) fun r => bnd (asB r) fun b => if b then vB true else g ρ := rfl
@[simp] theorem eNot_eq : eNot f ρ = bnd (f ρ) fun r => bnd (asB r) fun b => vB (!b) := rfl
@[simp] theorem eIf_eq (t : FT) : eIf t f g ρ = bnd (t ρ) fun b => if b then f ρ else g ρ := rfl
@[simp] theorem eChain_eq (gg gg' : G2) : eChain gg gg' f g h ρ = bnd (f ρ) fun x => bnd (g ρ) fun y => bnd (gg x y) fun z => bnd (asB z) fun b => if b then bnd (h ρ) fun w => gg' y w else vB false := rfl
@[simp] theorem sSet_eq : sSet n f ρ = bndS ρ (f ρ) fun r => match celOf r with | some c => some (.nx (ρ.set n (some c))) | none => none := rfl
@[simp] theorem celOf_fro : celOf (.fro d) = some (.fro d) := rfl
@[simp] theorem celOf_own : celOf (.own ds) = some (.own ds) := rfl
@[simp] theorem sNext_eq : sNext ρ = some (.nx ρ) := rfl
@[simp] theorem sIf_eq (t : FT) : sIf t F H ρ = bndS ρ (t ρ) fun b => if b then F ρ else H ρ := rfl
@[simp] theorem sExpr_eq : sExpr f ρ = bndS ρ (f ρ) fun _ => some (.nx ρ) := rfl
@[simp] theorem aNil_eq : aNil ρ = some (.ok []) := rfl
@[simp] theorem aCons_eq (fs : FA) : aCons f fs ρ = bnd (f ρ) fun r => bnd (frz r) fun d => bnd (fs ρ) fun ds => some (.ok (d :: ds)) := rfl
@[simp] theorem eLst_eq (fs : FA) : eLst fs ρ = bnd (fs ρ) fun ds => if ds.length ≤ LINE then some (.ok (.own ds)) else none := rfl
@[simp] theorem eTup_eq (fs : FA) : eTup fs ρ = bnd (fs ρ) fun ds => if ds.length ≤ LINE then some (.ok (.fro (.tup ds))) else none := rfl
@[simp] theorem sFor_eq (it : FIt) (gt : GT) : sFor it gt F ρ = bndS ρ (it ρ) fun ds => forD gt F ds ρ := rfl
@[simp] theorem gtName_eq : gtName n d ρ = some (ρ.set n (some (.fro d))) := rfl
@[simp] theorem eCa_eq (fn : Fn) (fa : FA) : eCa n fn fa ρ = bnd (fa ρ) fun ds => if ds.length = n then fn ds else none := by
  unfold eCa eCall
  cases fa ρ with
  | none => rfl
  | some x =>
    cases x with
    | ex c es => rfl
    | ok ds =>
      show (if ds.length = n ∧ ([] : List Dt).length = 0 then fn ds else none) = (if ds.length = n then fn ds else none)
      simp
theorem eCa_run {fn : Fn} {fa : FA} {ρ : PEnv} {ds : List Dt} {n : Nat} (h : fa ρ = some (.ok ds)) (hl : ds.length = n := by rfl) : eCa n fn fa ρ = fn ds := by
  rw [eCa_eq, h, bnd_ok, if_pos hl]
@[simp] theorem gEqS_int : gEqS (.fro (.int i)) (.fro (.int j)) = vB (decide (i = j)) := by
  unfold gEqS sclD
  simp
@[simp] theorem gNeS_int : gNeS (.fro (.int i)) (.fro (.int j)) = vB (!decide (i = j)) := by
  unfold gNeS sclD
  simp
theorem sSeq_nx {ρ ρ' : PEnv} {F H : FS} (h : F ρ = some (.nx ρ')) : sSeq F H ρ = H ρ' := by unfold sSeq; rw [h]
theorem sSeq_rt {ρ : PEnv} {F H : FS} {r : Rs} (h : F ρ = some (.rt r)) : sSeq F H ρ = some (.rt r) := by unfold sSeq; rw [h]
end
theorem p18 : (10 : Int) ^ 18 = 1000000000000000000 := by decide +kernel
@[simp] theorem gPow_18 : gPow (.fro (.int 10)) (.fro (.int 18)) = vI 1000000000000000000 := by
  rw [gPow_eq, if_pos (by decide), show (18 : Int).toNat = 18 from rfl, p18]
theorem rng1_run {f : FE} {ρ : PEnv} {n : Int} (h : f ρ = some (.ok (.fro (.int n)))) (hr : rOk n = true) : iRng1 f ρ = some (.ok (intsFrom 0 n.toNat)) := by
  unfold iRng1
  rw [h, bnd_ok, asI_eq, bnd_ok, hr]
  rfl
theorem rngD_run {f g : FE} {ρ : PEnv} {m n : Int} (h : f ρ = some (.ok (.fro (.int m)))) (h' : g ρ = some (.ok (.fro (.int n)))) (hm : rOk m = true) (hn : rOk n = true) : iRngD f g ρ = some (.ok (intsBy m (-1) (m - n).toNat)) := by
  unfold iRngD
  rw [h, bnd_ok, h', bnd_ok, asI_eq, bnd_ok, asI_eq, bnd_ok, hm, hn]
  rfl
theorem for_run {it : FIt} {gt : GT} {F : FS} {ρ : PEnv} {ds : List Dt} (h : it ρ = some (.ok ds)) : sFor it gt F ρ = forD gt F ds ρ := by
  unfold sFor
  rw [h, bndS_ok]
theorem log2_lt {x a : Nat} (h : x < 2 ^ a) (ha : 0 < a) : x.log2 < a := by
  by_cases z : x = 0
  · subst z; simpa using ha
  · exact (Nat.log2_lt z).mpr h
theorem mulOk_of {i j : Int} (a b : Nat) (h1 : i.natAbs < 2 ^ a) (h2 : j.natAbs < 2 ^ b) (h : a + b ≤ 100000000 := by decide) (ha : 0 < a := by decide) (hb : 0 < b := by decide) : mulOk i j = true := by
  unfold mulOk
  have := log2_lt h1 ha
  have := log2_lt h2 hb
  exact decide_eq_true (by omega)
theorem divOk_ne {i j : Int} (h0 : j ≠ 0) : divOk i j = true := decide_eq_true h0
theorem modOk_of {i j : Int} (h0 : j ≠ 0) : modOk i j = true := decide_eq_true h0
theorem rOk_of {i : Int} (h1 : -1000000000000000000 ≤ i) (h2 : i ≤ 1000000000000000000) : rOk i = true := by
  unfold rOk
  simp only [Bool.and_eq_true, decide_eq_true_eq]
  constructor <;> omega
theorem fmod_pos {i j : Int} (h : 0 < j) : 0 ≤ i.fmod j ∧ i.fmod j < j := ⟨Int.fmod_nonneg_of_pos i h, Int.fmod_lt_of_pos i h⟩
theorem bits_lt {z : Int} {n : Nat} (h : Builtin.Int.intBits z ≤ n) : z.natAbs < 2 ^ n := by
  unfold Builtin.Int.intBits at h
  split at h
  · rename_i e
    have : z = 0 := by simpa using e
    subst this
    exact Nat.pow_pos (by decide)
  · have : z.natAbs ≠ 0 := by
      rename_i e
      intro q
      have : z = 0 := by omega
      subst this
      simp at e
    exact (Nat.log2_lt this).mp (by omega)
@[simp] theorem gIx_bor {ds : List Dt} {i : Int} : gIx (.bor ds) (.fro (.int i)) = (match atI ds i with | some d => some (.ok (.fro d)) | none => none) := rfl
@[simp] theorem gIx_lst {ds : List Dt} {i : Int} : gIx (.fro (.lst ds)) (.fro (.int i)) = (match atI ds i with | some d => some (.ok (.fro d)) | none => none) := rfl
@[simp] theorem gIx_tup {ds : List Dt} {i : Int} : gIx (.fro (.tup ds)) (.fro (.int i)) = (match atI ds i with | some d => some (.ok (.fro d)) | none => none) := rfl
@[simp] theorem gLen_bor {ds : List Dt} : gLen (.bor ds) = vI ds.length := rfl
@[simp] theorem gLen_own {ds : List Dt} : gLen (.own ds) = vI ds.length := rfl
@[simp] theorem gLen_lst {ds : List Dt} : gLen (.fro (.lst ds)) = vI ds.length := rfl
@[simp] theorem gLen_tup {ds : List Dt} : gLen (.fro (.tup ds)) = vI ds.length := rfl
end Pd
set_option maxHeartbeats 2000000
namespace Pd
open PySem PySem.Spec L2
theorem fnD_run {np nl : Nat} {F : FS} {args : List Dt} (h : args.length = np) : fnD np nl F args = outR (F (args.map (fun d => some (.fro d)) ++ List.replicate nl none)) := if_pos h
abbrev cD (d : Dt) : Option Cel := some (.fro d)
abbrev cO (ds : List Dt) : Option Cel := some (.own ds)
end Pd
set_option maxHeartbeats 2000000
namespace Pd
open PySem PySem.Spec L2
class Sm (x : Int) (n : outParam Nat) : Prop where
  lt : x.natAbs < 2 ^ n
  pos : 0 < n
theorem Sm.of {x : Int} {n : Nat} (h : x.natAbs < 2 ^ n) (p : 0 < n) : Sm x n := ⟨h, p⟩
instance Sm.mul {x y : Int} {a b : Nat} [h : Sm x a] [k : Sm y b] : Sm (x * y) (a + b) := ⟨by
  rw [Int.natAbs_mul, Nat.pow_add]
  exact Nat.mul_lt_mul'' h.lt k.lt, Nat.add_pos_left h.pos b⟩
theorem pow_max {A B : Nat} (a b : Nat) (hA : A < 2 ^ a) (hB : B < 2 ^ b) : A + B < 2 ^ (a + b + 1) := by
  have h1 : 2 ^ a ≤ 2 ^ (a + b) := Nat.pow_le_pow_right (by decide) (by omega)
  have h2 : 2 ^ b ≤ 2 ^ (a + b) := Nat.pow_le_pow_right (by decide) (by omega)
  rw [Nat.pow_succ]
  generalize 2 ^ (a + b) = C at *
  omega
instance Sm.add {x y : Int} {a b : Nat} [h : Sm x a] [k : Sm y b] : Sm (x + y) (a + b + 1) := ⟨Nat.lt_of_le_of_lt (Int.natAbs_add_le x y) (pow_max a b h.lt k.lt), Nat.succ_pos _⟩
instance Sm.neg {x : Int} {a : Nat} [h : Sm x a] : Sm (-x) a := ⟨by rw [Int.natAbs_neg]; exact h.lt, h.pos⟩
instance Sm.sub {x y : Int} {a b : Nat} [h : Sm x a] [k : Sm y b] : Sm (x - y) (a + b + 1) := by
  rw [Int.sub_eq_add_neg]
  exact Sm.add
instance (priority := low) Sm.lit {n : Nat} : Sm (no_index (OfNat.ofNat n : Int)) (n.log2 + 1) := ⟨by
  show n < 2 ^ (n.log2 + 1)
  exact Nat.lt_log2_self, Nat.succ_pos _⟩
theorem sIf_t {t : FT} {F G : FS} {ρ : PEnv} (h : t ρ = some (.ok true)) : sIf t F G ρ = F ρ := by
  rw [sIf_eq, h]
  rfl
theorem sIf_f {t : FT} {F G : FS} {ρ : PEnv} (h : t ρ = some (.ok false)) : sIf t F G ρ = G ρ := by
  rw [sIf_eq, h]
  rfl
theorem sSet_run {n : Nat} {f : FE} {ρ : PEnv} {r : Rs} {c : Cel} (h : f ρ = some (.ok r)) (hc : celOf r = some c := by rfl) : sSet n f ρ = some (.nx (ρ.set n (some c))) := by
  rw [sSet_eq, h, bndS_ok, hc]
section
variable (i j : Int) (c : Nat) (ds as : List Dt) (d : Dt) (ρ : PEnv)
end
theorem while_end {t : FT} {body : FS} {ρ : PEnv} (h : t ρ = some (.ok false)) : whileD t body 1 ρ = some (.nx ρ) := by
  unfold whileD
  rw [h]
  rfl
theorem while_step {t : FT} {body : FS} {ρ ρ2 : PEnv} {o : Out} {m : Nat} (h : t ρ = some (.ok true)) (hb : body ρ = some (.nx ρ2)) (r : whileD t body m ρ2 = some o) : whileD t body (m + 1) ρ = some o := by
  unfold whileD
  rw [h, bndS_ok, if_pos rfl, hb]
  exact r
end Pd
set_option maxHeartbeats 4000000
namespace G
open PySem PySem.Spec L2 Pd
def top (i : Nat) : Stmt := PySem.Challenge.pw_certsums_k57_operator_composition.main.body.getD i (.Pass ⟨0, 0, 0, 0⟩)
abbrev s_law_cell : Stmt := top 14
abbrev s_law_digits : Stmt := top 15
abbrev s_law_trim : Stmt := top 16
abbrev s_law_draw : Stmt := top 30
abbrev s_law_drawn : Stmt := top 36
abbrev s_law_cut : Stmt := top 31
abbrev s_law_pairs : Stmt := top 37
abbrev s_Fraction_init : Stmt := inClass (top 6) 0
abbrev s_law_vector : Stmt := top 38
abbrev s_trimmed : Stmt := top 8
abbrev s_content : Stmt := top 9
abbrev s_Poly_init : Stmt := inClass (top 10) 0
abbrev s_law_poly : Stmt := top 27
abbrev s_Poly_is_zero : Stmt := inClass (top 10) 4
abbrev s_Operator_init : Stmt := inClass (top 12) 0
abbrev s_law_operator : Stmt := top 33
abbrev s_law_at : Stmt := top 20
abbrev s_law_applied : Stmt := top 39
abbrev s_Poly_at : Stmt := inClass (top 10) 12
abbrev s_Fraction_mul : Stmt := inClass (top 6) 6
abbrev s_Fraction_add : Stmt := inClass (top 6) 4
abbrev s_Operator_apply_at : Stmt := inClass (top 12) 11
abbrev s_law_is_whole : Stmt := top 28
abbrev s_law_is : Stmt := top 40
abbrev s_Poly_shifted : Stmt := inClass (top 10) 15
abbrev s_Poly_mul : Stmt := inClass (top 10) 11
abbrev s_Poly_add : Stmt := inClass (top 10) 8
abbrev s_Operator_mul : Stmt := inClass (top 12) 10
abbrev s_law_shift : Stmt := top 21
abbrev s_law_move : Stmt := top 22
abbrev s_law_mul : Stmt := top 17
abbrev s_law_times : Stmt := top 23
abbrev s_law_scale : Stmt := top 19
abbrev s_law_sum : Stmt := top 18
abbrev s_law_plus : Stmt := top 24
abbrev s_law_after : Stmt := top 32
abbrev s_law_read : Stmt := top 29
abbrev s_law_read_operator : Stmt := top 34
abbrev s_law_alike : Stmt := top 26
abbrev s_law_same : Stmt := top 35
abbrev s_law_are : Stmt := top 41
abbrev s_law : Stmt := top 42
def fls (c : Nat) : List Str := match c with
  | 20 => ["num", "den"]
  | 21 => ["coefs", "den"]
  | 26 => ["coefs"]
  | _ => []
def tab (K : PySem.W.Frag) : Tab := ⟨fun c => match c with
  | 0 => He.ga K "SummationError"
  | 1 => He.ga K "DivisionByZero"
  | 20 => He.ga K "Fraction"
  | 21 => He.ga K "Poly"
  | 26 => He.ga K "Operator"
  | _ => 0, fls⟩
noncomputable abbrev b_law_cell_0 : FS :=
  sRet (e2 gIx (eVar 0) (eVar 1))
noncomputable abbrev b_law_cell_1 : FS :=
  sRet (e2 gMul (eC (.int 31)) (eVar 1))
noncomputable abbrev b_law_cell_2 : FS :=
  sRet (e2 gAdd (e2 gMul (e1 gInt (e2 gIx (eVar 0) (eC (.int 0)))) (eC (.int 7919))) (e2 gMul (eC (.int 104729)) (eVar 1)))
noncomputable abbrev b_law_cell_3 : FS :=
  sSeq (sIf (tB (e2 gEqS (e1 gLen (eVar 0)) (eC (.int 0))))
  b_law_cell_1
  sNext)
  b_law_cell_2
noncomputable abbrev b_law_cell_4 : FS :=
  sSeq (sIf (tB (e2 gLt (eVar 1) (e1 gLen (eVar 0))))
  b_law_cell_0
  sNext)
  b_law_cell_3
noncomputable abbrev b_law_cell : FS := b_law_cell_4
noncomputable def f_law_cell : Fn := fnD 2 0 b_law_cell
noncomputable abbrev b_law_digits_0 : FS :=
  sSet 3 (e2 gDiv (eVar 3) (eVar 1))
noncomputable abbrev b_law_digits_1 : FS :=
  sSeq (sApp 5 (e2 gMod (e1 gInt (eVar 3)) (eVar 1)))
  b_law_digits_0
noncomputable abbrev b_law_digits_2 : FS :=
  sApp 5 (e2 gMod (e1 gInt (e2 gDiv (eVar 7) (eC (.int 5)))) (eVar 1))
noncomputable abbrev b_law_digits_3 : FS :=
  sSeq (sSet 7 (e2 gMod (e1 gInt (e2 gAdd (e2 gMul (eVar 7) (eC (.int 16807))) (e2 gMul (eC (.int 11)) (eVar 6)))) (eC (.int 2147483629))))
  b_law_digits_2
noncomputable abbrev b_law_digits_4 : FS :=
  sSeq (sSet 7 (e2 gMod (e1 gInt (e2 gAdd (e2 gMul (e2 gAdd (e1 gAbs (eVar 0)) (eC (.int 3))) (eC (.int 48271))) (e2 gMul (eVar 6) (eC (.int 69621))))) (eC (.int 2147483647))))
  b_law_digits_3
noncomputable abbrev b_law_digits_5 : FS :=
  sIf (tAnd (tTru (eVar 4)) (tB (e2 gGt (eVar 3) (eC (.int 0)))))
  b_law_digits_1
  b_law_digits_4
noncomputable abbrev b_law_digits_6 : FS :=
  sRetV 5
noncomputable abbrev b_law_digits_7 : FS :=
  sSeq (sFor (iRng1 (eVar 2)) (gtName 6)
  b_law_digits_5)
  b_law_digits_6
noncomputable abbrev b_law_digits_8 : FS :=
  sSeq (sSet 5 (eLst aNil))
  b_law_digits_7
noncomputable abbrev b_law_digits_9 : FS :=
  sSeq (sSet 4 (e2 gGe (eVar 3) (e2 gPow (eC (.int 10)) (eC (.int 18)))))
  b_law_digits_8
noncomputable abbrev b_law_digits_10 : FS :=
  sSeq (sSet 3 (e1 gAbs (eVar 0)))
  b_law_digits_9
noncomputable abbrev b_law_digits : FS := b_law_digits_10
noncomputable def f_law_digits : Fn := fnD 3 5 b_law_digits
noncomputable abbrev b_law_trim_0 : FS :=
  sSet 1 (e2 gAdd (eVar 2) (eC (.int 1)))
noncomputable abbrev b_law_trim_1 : FS :=
  sIf (tB (e2 gNeS (e2 gIx (eVar 0) (eVar 2)) (eC (.int 0))))
  b_law_trim_0
  sNext
noncomputable abbrev b_law_trim_2 : FS :=
  sRet (eSl (eVar 0) oNone (oSome (eVar 1)))
noncomputable abbrev b_law_trim_3 : FS :=
  sSeq (sFor (iRng1 (e1 gLen (eVar 0))) (gtName 2)
  b_law_trim_1)
  b_law_trim_2
noncomputable abbrev b_law_trim_4 : FS :=
  sSeq (sSet 1 (eC (.int 0)))
  b_law_trim_3
noncomputable abbrev b_law_trim : FS := b_law_trim_4
noncomputable def f_law_trim : Fn := fnD 1 2 b_law_trim
noncomputable abbrev b_law_draw_0 : FS :=
  sApp 4 (eC (.int 0))
noncomputable abbrev b_law_draw_1 : FS :=
  sApp 4 (e2 gSub (e2 gMod (e1 gInt (eVar 5)) (eC (.int 19))) (eC (.int 9)))
noncomputable abbrev b_law_draw_2 : FS :=
  sIf (tAnd (tB (e2 gEqS (e2 gMod (e1 gInt (e2 gIx (eVar 2) (eC (.int 1)))) (eC (.int 3))) (eC (.int 0)))) (tB (e2 gEqS (e2 gMod (e1 gInt (e2 gDiv (eVar 5) (eC (.int 19)))) (eC (.int 2))) (eC (.int 0)))))
  b_law_draw_0
  b_law_draw_1
noncomputable abbrev b_law_draw_3 : FS :=
  sFrz 4 (sRet (eTup (aCons (eCa 1 f_law_trim (aCons (eVar 4) aNil)) (aCons (e2 gAdd (e2 gMod (e1 gInt (e2 gDiv (e2 gIx (eVar 2) (eC (.int 1))) (eC (.int 3)))) (eC (.int 3))) (eC (.int 1))) aNil))))
noncomputable abbrev b_law_draw_4 : FS :=
  sSeq (sFor (iSeq (eSl (eVar 2) (oSome (eC (.int 2))) (oSome (e2 gAdd (eC (.int 2)) (eVar 3))))) (gtName 5)
  b_law_draw_2)
  b_law_draw_3
noncomputable abbrev b_law_draw_5 : FS :=
  sSeq (sSet 4 (eLst aNil))
  b_law_draw_4
noncomputable abbrev b_law_draw_6 : FS :=
  sSeq (sSet 3 (e2 gMod (e1 gInt (e2 gIx (eVar 2) (eC (.int 0)))) (e2 gAdd (eVar 1) (eC (.int 2)))))
  b_law_draw_5
noncomputable abbrev b_law_draw_7 : FS :=
  sSeq (sSet 2 (eCa 3 f_law_digits (aCons (eVar 0) (aCons (eC (.int 228)) (aCons (e2 gAdd (eVar 1) (eC (.int 3))) aNil)))))
  b_law_draw_6
noncomputable abbrev b_law_draw : FS := b_law_draw_7
noncomputable def f_law_draw : Fn := fnD 2 4 b_law_draw
noncomputable abbrev b_law_drawn_0 : FS :=
  sSetIx 4 (eVar 2) (eTup (aCons (eLst (aCons (eC (.int 1)) aNil)) (aCons (eC (.int 1)) aNil)))
noncomputable abbrev b_law_drawn_1 : FS :=
  sRetV 4
noncomputable abbrev b_law_drawn_2 : FS :=
  sSeq (sIf (tAnd (tB (e2 gGt (e1 gLen (eVar 4)) (eC (.int 0)))) (tB (e2 gEqS (e1 gLen (e2 gIx (e2 gIx (eVar 4) (eVar 2)) (eC (.int 0)))) (eC (.int 0)))))
  b_law_drawn_0
  sNext)
  b_law_drawn_1
noncomputable abbrev b_law_drawn_3 : FS :=
  sSeq (sSet 4 (eLc [5] (iRng1 (e2 gAdd (eVar 2) (eC (.int 1)))) (gtName 5) tTrue (eCa 2 f_law_draw (aCons (eCa 2 f_law_cell (aCons (eVar 0) (aCons (e2 gAdd (eVar 1) (eVar 5)) aNil))) (aCons (eVar 3) aNil)))))
  b_law_drawn_2
noncomputable abbrev b_law_drawn : FS := b_law_drawn_3
noncomputable def f_law_drawn : Fn := fnD 4 2 b_law_drawn
noncomputable abbrev b_law_cut_0 : FS :=
  sSet 1 (e2 gAdd (eVar 2) (eC (.int 1)))
noncomputable abbrev b_law_cut_1 : FS :=
  sIf (tB (e2 gGt (e1 gLen (e2 gIx (e2 gIx (eVar 0) (eVar 2)) (eC (.int 0)))) (eC (.int 0))))
  b_law_cut_0
  sNext
noncomputable abbrev b_law_cut_2 : FS :=
  sRet (eSl (eVar 0) oNone (oSome (eVar 1)))
noncomputable abbrev b_law_cut_3 : FS :=
  sSeq (sFor (iRng1 (e1 gLen (eVar 0))) (gtName 2)
  b_law_cut_1)
  b_law_cut_2
noncomputable abbrev b_law_cut_4 : FS :=
  sSeq (sSet 1 (eC (.int 0)))
  b_law_cut_3
noncomputable abbrev b_law_cut : FS := b_law_cut_4
noncomputable def f_law_cut : Fn := fnD 1 2 b_law_cut
noncomputable abbrev b_law_pairs_0 : FS :=
  sRet (eLc [2] (iSeq (eCa 3 f_law_digits (aCons (eVar 0) (aCons (eC (.int 76)) (aCons (eVar 1) aNil))))) (gtName 2) tTrue (eTup (aCons (e2 gSub (e2 gMod (e1 gInt (eVar 2)) (eC (.int 19))) (eC (.int 9))) (aCons (e2 gAdd (e2 gMod (e1 gInt (e2 gDiv (eVar 2) (eC (.int 19)))) (eC (.int 4))) (eC (.int 1))) aNil))))
noncomputable abbrev b_law_pairs : FS := b_law_pairs_0
noncomputable def f_law_pairs : Fn := fnD 2 1 b_law_pairs
noncomputable abbrev b_Fraction_init_0 : FS :=
  sRaise 1
noncomputable abbrev b_Fraction_init_1 : FS :=
  sSet 3 (e1 gNeg (eVar 3))
noncomputable abbrev b_Fraction_init_2 : FS :=
  sFld 0 20 1 (e2 gDiv (eVar 2) (eVar 3))
noncomputable abbrev b_Fraction_init_3 : FS :=
  sSeq (sFld 0 20 0 (e2 gDiv (eVar 1) (eVar 3)))
  b_Fraction_init_2
noncomputable abbrev b_Fraction_init_4 : FS :=
  sSeq (sIf (tB (e2 gLt (eVar 2) (eC (.int 0))))
  b_Fraction_init_1
  sNext)
  b_Fraction_init_3
noncomputable abbrev b_Fraction_init_5 : FS :=
  sSeq (sSet 3 (e2 gGcd (eVar 1) (eVar 2)))
  b_Fraction_init_4
noncomputable abbrev b_Fraction_init_6 : FS :=
  sSeq (sIf (tB (e2 gEqS (eVar 2) (eC (.int 0))))
  b_Fraction_init_0
  sNext)
  b_Fraction_init_5
noncomputable abbrev b_Fraction_init : FS := b_Fraction_init_6
noncomputable def i_Fraction : FI := fnI 20 2 2 1 b_Fraction_init
noncomputable def m_Fraction : Fn := mkD 20 i_Fraction
noncomputable abbrev b_law_vector_0 : FS :=
  sRet (eLc [1] (iSeq (eVar 0)) (gtName 1) tTrue (eCa 2 m_Fraction (aCons (e2 gIx (eVar 1) (eC (.int 0))) (aCons (e2 gIx (eVar 1) (eC (.int 1))) aNil))))
noncomputable abbrev b_law_vector : FS := b_law_vector_0
noncomputable def f_law_vector : Fn := fnD 1 1 b_law_vector
noncomputable abbrev b_trimmed_0 : FS :=
  sAug gSub 1 (eC (.int 1))
noncomputable abbrev b_trimmed_1 : FS :=
  sRet (eSl (eVar 0) oNone (oSome (eVar 1)))
noncomputable abbrev b_trimmed_2 : FS :=
  sSeq (sWhile (tAnd (tB (e2 gGt (eVar 1) (eC (.int 0)))) (tB (e2 gEqS (e2 gIx (eVar 0) (e2 gSub (eVar 1) (eC (.int 1)))) (eC (.int 0)))))
  b_trimmed_0)
  b_trimmed_1
noncomputable abbrev b_trimmed_3 : FS :=
  sSeq (sSet 1 (e1 gLen (eVar 0)))
  b_trimmed_2
noncomputable abbrev b_trimmed : FS := b_trimmed_3
noncomputable def f_trimmed : Fn := fnD 1 1 b_trimmed
noncomputable abbrev b_content_0 : FS :=
  sSet 1 (e2 gGcd (eVar 1) (eVar 2))
noncomputable abbrev b_content_1 : FS :=
  sRetV 1
noncomputable abbrev b_content_2 : FS :=
  sSeq (sFor (iSeq (eVar 0)) (gtName 2)
  b_content_0)
  b_content_1
noncomputable abbrev b_content_3 : FS :=
  sSeq (sSet 1 (eC (.int 0)))
  b_content_2
noncomputable abbrev b_content : FS := b_content_3
noncomputable def f_content : Fn := fnD 1 2 b_content
noncomputable abbrev b_Poly_init_0 : FS :=
  sRaise 1
noncomputable abbrev b_Poly_init_1 : FS :=
  sSet 4 (e1 gNeg (eVar 4))
noncomputable abbrev b_Poly_init_2 : FS :=
  sFld 0 21 1 (e2 gDiv (eVar 2) (eVar 4))
noncomputable abbrev b_Poly_init_3 : FS :=
  sSeq (sFld 0 21 0 (eBor 3 (e1 gTuple (eLc [5] (iSeq (eVar 3)) (gtName 5) tTrue (e2 gDiv (eVar 5) (eVar 4))))))
  b_Poly_init_2
noncomputable abbrev b_Poly_init_4 : FS :=
  sSeq (sIf (tB (e2 gLt (eVar 2) (eC (.int 0))))
  b_Poly_init_1
  sNext)
  b_Poly_init_3
noncomputable abbrev b_Poly_init_5 : FS :=
  sSeq (sSet 4 (eBor 3 (e2 gGcd (eCa 1 f_content (aCons (eVar 3) aNil)) (eVar 2))))
  b_Poly_init_4
noncomputable abbrev b_Poly_init_6 : FS :=
  sSeq (sSet 3 (eCa 1 f_trimmed (aCons (e1 gList (eVar 1)) aNil)))
  b_Poly_init_5
noncomputable abbrev b_Poly_init_7 : FS :=
  sSeq (sIf (tB (e2 gEqS (eVar 2) (eC (.int 0))))
  b_Poly_init_0
  sNext)
  b_Poly_init_6
noncomputable abbrev b_Poly_init : FS := b_Poly_init_7
noncomputable def i_Poly : FI := fnI 21 2 2 3 b_Poly_init
noncomputable def m_Poly : Fn := mkD 21 i_Poly
noncomputable abbrev b_law_poly_0 : FS :=
  sRet (eCa 2 m_Poly (aCons (e1 gList (e2 gIx (eVar 0) (eC (.int 0)))) (aCons (e2 gIx (eVar 0) (eC (.int 1))) aNil)))
noncomputable abbrev b_law_poly : FS := b_law_poly_0
noncomputable def f_law_poly : Fn := fnD 1 0 b_law_poly
noncomputable abbrev b_Poly_is_zero_0 : FS :=
  sRet (e2 gEqS (e1 gLen (e1 (gFld (tbl [(21, 0)])) (eVar 0))) (eC (.int 0)))
noncomputable abbrev b_Poly_is_zero : FS := b_Poly_is_zero_0
noncomputable def f_Poly_is_zero : Fn := fnD 1 0 b_Poly_is_zero
noncomputable abbrev b_Operator_init_0 : FS :=
  sPop 2
noncomputable abbrev b_Operator_init_1 : FS :=
  sFld 0 26 0 (e1 gTuple (eVar 2))
noncomputable abbrev b_Operator_init_2 : FS :=
  sSeq (sWhile (tAnd (tB (e2 gGt (e1 gLen (eVar 2)) (eC (.int 0)))) (tTru (e1 (gAtt (tbl []) (tbl [(21, f_Poly_is_zero)])) (e2 gIx (eVar 2) (e1 gNeg (eC (.int 1)))))))
  b_Operator_init_0)
  b_Operator_init_1
noncomputable abbrev b_Operator_init_3 : FS :=
  sSeq (sSet 2 (e1 gList (eVar 1)))
  b_Operator_init_2
noncomputable abbrev b_Operator_init : FS := b_Operator_init_3
noncomputable def i_Operator : FI := fnI 26 1 1 1 b_Operator_init
noncomputable def m_Operator : Fn := mkD 26 i_Operator
noncomputable abbrev b_law_operator_0 : FS :=
  sRet (eCa 1 m_Operator (aCons (eLc [1] (iSeq (eVar 0)) (gtName 1) tTrue (eCa 1 f_law_poly (aCons (eVar 1) aNil))) aNil))
noncomputable abbrev b_law_operator : FS := b_law_operator_0
noncomputable def f_law_operator : Fn := fnD 1 1 b_law_operator
noncomputable abbrev b_law_at_0 : FS :=
  sSet 2 (e2 gAdd (e2 gMul (eVar 2) (eVar 1)) (eVar 3))
noncomputable abbrev b_law_at_1 : FS :=
  sRetV 2
noncomputable abbrev b_law_at_2 : FS :=
  sSeq (sFor (iRevS (eVar 0)) (gtName 3)
  b_law_at_0)
  b_law_at_1
noncomputable abbrev b_law_at_3 : FS :=
  sSeq (sSet 2 (eC (.int 0)))
  b_law_at_2
noncomputable abbrev b_law_at : FS := b_law_at_3
noncomputable def f_law_at : Fn := fnD 2 2 b_law_at
noncomputable abbrev b_law_applied_0 : FS :=
  sSet 4 (e2 gMul (eVar 4) (eVar 7))
noncomputable abbrev b_law_applied_1 : FS :=
  sSeq (sSet 3 (e2 gAdd (e2 gMul (eVar 3) (eVar 7)) (e2 gMul (eVar 6) (eVar 4))))
  b_law_applied_0
noncomputable abbrev b_law_applied_2 : FS :=
  sSeq (sSet 7 (e2 gMul (e2 gIx (e2 gIx (eVar 0) (eVar 5)) (eC (.int 1))) (e2 gIx (e2 gIx (eVar 1) (e2 gAdd (eVar 2) (eVar 5))) (eC (.int 1)))))
  b_law_applied_1
noncomputable abbrev b_law_applied_3 : FS :=
  sSeq (sSet 6 (e2 gMul (eCa 2 f_law_at (aCons (e2 gIx (e2 gIx (eVar 0) (eVar 5)) (eC (.int 0))) (aCons (eVar 2) aNil))) (e2 gIx (e2 gIx (eVar 1) (e2 gAdd (eVar 2) (eVar 5))) (eC (.int 0)))))
  b_law_applied_2
noncomputable abbrev b_law_applied_4 : FS :=
  sRet (eTup (aCons (eVar 3) (aCons (eVar 4) aNil)))
noncomputable abbrev b_law_applied_5 : FS :=
  sSeq (sFor (iRng1 (e1 gLen (eVar 0))) (gtName 5)
  b_law_applied_3)
  b_law_applied_4
noncomputable abbrev b_law_applied_6 : FS :=
  sSeq (sSet 4 (eC (.int 1)))
  b_law_applied_5
noncomputable abbrev b_law_applied_7 : FS :=
  sSeq (sSet 3 (eC (.int 0)))
  b_law_applied_6
noncomputable abbrev b_law_applied : FS := b_law_applied_7
noncomputable def f_law_applied : Fn := fnD 3 5 b_law_applied
noncomputable abbrev b_Poly_at_0 : FS :=
  sSet 2 (e2 gAdd (e2 gMul (eVar 2) (eVar 1)) (eVar 3))
noncomputable abbrev b_Poly_at_1 : FS :=
  sRet (eCa 2 m_Fraction (aCons (eVar 2) (aCons (e1 (gFld (tbl [(21, 1)])) (eVar 0)) aNil)))
noncomputable abbrev b_Poly_at_2 : FS :=
  sSeq (sFor (iRevS (e1 (gFld (tbl [(21, 0)])) (eVar 0))) (gtName 3)
  b_Poly_at_0)
  b_Poly_at_1
noncomputable abbrev b_Poly_at_3 : FS :=
  sSeq (sSet 2 (eC (.int 0)))
  b_Poly_at_2
noncomputable abbrev b_Poly_at : FS := b_Poly_at_3
noncomputable def f_Poly_at : Fn := fnD 2 2 b_Poly_at
noncomputable abbrev b_Fraction_mul_0 : FS :=
  sRet (eCa 2 m_Fraction (aCons (e2 gMul (e1 (gFld (tbl [(20, 0)])) (eVar 0)) (e1 (gFld (tbl [(20, 0)])) (eVar 1))) (aCons (e2 gMul (e1 (gFld (tbl [(20, 1)])) (eVar 0)) (e1 (gFld (tbl [(20, 1)])) (eVar 1))) aNil)))
noncomputable abbrev b_Fraction_mul : FS := b_Fraction_mul_0
noncomputable def f_Fraction_mul : Fn := fnD 2 0 b_Fraction_mul
noncomputable abbrev b_Fraction_add_0 : FS :=
  sRet (eCa 2 m_Fraction (aCons (e2 gAdd (e2 gMul (e1 (gFld (tbl [(20, 0)])) (eVar 0)) (e1 (gFld (tbl [(20, 1)])) (eVar 1))) (e2 gMul (e1 (gFld (tbl [(20, 0)])) (eVar 1)) (e1 (gFld (tbl [(20, 1)])) (eVar 0)))) (aCons (e2 gMul (e1 (gFld (tbl [(20, 1)])) (eVar 0)) (e1 (gFld (tbl [(20, 1)])) (eVar 1))) aNil)))
noncomputable abbrev b_Fraction_add : FS := b_Fraction_add_0
noncomputable def f_Fraction_add : Fn := fnD 2 0 b_Fraction_add
noncomputable abbrev b_Operator_apply_at_0 : FS :=
  sSet 3 (e2 (gOwn gAdd sameC (tbl [(20, mfn 2 (fun ds => ds) f_Fraction_add)])) (eVar 3) (e2 (gOwn gMul sameC (tbl [(20, mfn 2 (fun ds => ds) f_Fraction_mul)])) (eMe (tbl [(21, mfn 2 (fun ds => ds) f_Poly_at)]) (eVar 5) (aCons (eVar 2) aNil)) (e2 gIx (eVar 1) (e2 gAdd (eVar 2) (eVar 4)))))
noncomputable abbrev b_Operator_apply_at_1 : FS :=
  sRetV 3
noncomputable abbrev b_Operator_apply_at_2 : FS :=
  sSeq (sFor (iEnS (e1 (gFld (tbl [(26, 0)])) (eVar 0))) (gtTup [4, 5])
  b_Operator_apply_at_0)
  b_Operator_apply_at_1
noncomputable abbrev b_Operator_apply_at_3 : FS :=
  sSeq (sSet 3 (eCa 1 (fun ds => m_Fraction ((fun ds => ds ++ [(.int 1)]) ds)) (aCons (eC (.int 0)) aNil)))
  b_Operator_apply_at_2
noncomputable abbrev b_Operator_apply_at : FS := b_Operator_apply_at_3
noncomputable def f_Operator_apply_at : Fn := fnD 3 3 b_Operator_apply_at
noncomputable abbrev b_law_is_whole_0 : FS :=
  sRet (eAnd (e1 (gIsi (ansB "int" [])) (eVar 0)) (eNot (e1 (gIsi (ansB "bool" [])) (eVar 0))))
noncomputable abbrev b_law_is_whole : FS := b_law_is_whole_0
noncomputable def f_law_is_whole : Fn := fnD 1 0 b_law_is_whole
noncomputable abbrev b_law_is_0 : FS :=
  sRet (eC (.bl false))
noncomputable abbrev b_law_is_1 : FS :=
  sRet (e2 gEqS (e2 gMul (e1 (gFld (tbl [(20, 0)])) (eVar 0)) (e2 gIx (eVar 1) (eC (.int 1)))) (e2 gMul (e2 gIx (eVar 1) (eC (.int 0))) (e1 (gFld (tbl [(20, 1)])) (eVar 0))))
noncomputable abbrev b_law_is_2 : FS :=
  sSeq (sIf (tOr (tNot (tTru (e1 (gIsi (ansC [] [(20, true)])) (eVar 0)))) (tOr (tNot (tTru (eCa 1 f_law_is_whole (aCons (e1 (gFld (tbl [(20, 0)])) (eVar 0)) aNil)))) (tOr (tNot (tTru (eCa 1 f_law_is_whole (aCons (e1 (gFld (tbl [(20, 1)])) (eVar 0)) aNil)))) (tB (e2 gLt (e1 (gFld (tbl [(20, 1)])) (eVar 0)) (eC (.int 1)))))))
  b_law_is_0
  sNext)
  b_law_is_1
noncomputable abbrev b_law_is : FS := b_law_is_2
noncomputable def f_law_is : Fn := fnD 2 0 b_law_is
noncomputable abbrev b_Poly_shifted_0 : FS :=
  sSetIx 2 (eVar 4) (e2 gAdd (e2 gIx (eVar 2) (eVar 4)) (e2 gMul (eVar 1) (e2 gIx (eVar 2) (e2 gAdd (eVar 4) (eC (.int 1))))))
noncomputable abbrev b_Poly_shifted_1 : FS :=
  sFor (iRngD (e2 gSub (e1 gLen (eVar 2)) (eC (.int 2))) (e2 gSub (eVar 3) (eC (.int 1)))) (gtName 4)
  b_Poly_shifted_0
noncomputable abbrev b_Poly_shifted_2 : FS :=
  sRet (eBor 2 (eCa 2 m_Poly (aCons (eVar 2) (aCons (e1 (gFld (tbl [(21, 1)])) (eVar 0)) aNil))))
noncomputable abbrev b_Poly_shifted_3 : FS :=
  sSeq (sFor (iRng1 (e2 gSub (e1 gLen (eVar 2)) (eC (.int 1)))) (gtName 3)
  b_Poly_shifted_1)
  b_Poly_shifted_2
noncomputable abbrev b_Poly_shifted_4 : FS :=
  sSeq (sSet 2 (e1 gList (e1 (gFld (tbl [(21, 0)])) (eVar 0))))
  b_Poly_shifted_3
noncomputable abbrev b_Poly_shifted : FS := b_Poly_shifted_4
noncomputable def f_Poly_shifted : Fn := fnD 2 3 b_Poly_shifted
noncomputable abbrev b_Poly_mul_0 : FS :=
  sSetIx 2 (e2 gAdd (eVar 4) (eVar 6)) (e2 gAdd (e2 gIx (eVar 2) (e2 gAdd (eVar 4) (eVar 6))) (e2 gMul (eVar 5) (eVar 7)))
noncomputable abbrev b_Poly_mul_1 : FS :=
  sFor (iEnS (e1 (gFld (tbl [(21, 0)])) (eVar 1))) (gtTup [6, 7])
  b_Poly_mul_0
noncomputable abbrev b_Poly_mul_2 : FS :=
  sRet (eBor 2 (eCa 2 m_Poly (aCons (eVar 2) (aCons (e2 gMul (e1 (gFld (tbl [(21, 1)])) (eVar 0)) (e1 (gFld (tbl [(21, 1)])) (eVar 1))) aNil))))
noncomputable abbrev b_Poly_mul_3 : FS :=
  sSeq (sFor (iEnS (e1 (gFld (tbl [(21, 0)])) (eVar 0))) (gtTup [4, 5])
  b_Poly_mul_1)
  b_Poly_mul_2
noncomputable abbrev b_Poly_mul_4 : FS :=
  sSeq (sSet 2 (eLc [3] (iRng1 (e2 gAdd (e1 gLen (e1 (gFld (tbl [(21, 0)])) (eVar 0))) (e1 gLen (e1 (gFld (tbl [(21, 0)])) (eVar 1))))) (gtName 3) tTrue (eC (.int 0))))
  b_Poly_mul_3
noncomputable abbrev b_Poly_mul : FS := b_Poly_mul_4
noncomputable def f_Poly_mul : Fn := fnD 2 6 b_Poly_mul
noncomputable abbrev b_Poly_add_0 : FS :=
  sRet (eBor 5 (eCa 2 m_Poly (aCons (eVar 5) (aCons (e2 gMul (e1 (gFld (tbl [(21, 1)])) (eVar 0)) (e1 (gFld (tbl [(21, 1)])) (eVar 1))) aNil))))
noncomputable abbrev b_Poly_add_1 : FS :=
  sSeq (sFrz 4 (sFrz 3 (sSet 5 (eLc [6, 7] (iZipS (eVar 3) (eVar 4)) (gtTup [6, 7]) tTrue (e2 gAdd (e2 gMul (eVar 6) (e1 (gFld (tbl [(21, 1)])) (eVar 1))) (e2 gMul (eVar 7) (e1 (gFld (tbl [(21, 1)])) (eVar 0))))))))
  b_Poly_add_0
noncomputable abbrev b_Poly_add_2 : FS :=
  sSeq (sSet 4 (e2 gCat (e1 gList (e1 (gFld (tbl [(21, 0)])) (eVar 1))) (e2 gRep (eLst (aCons (eC (.int 0)) aNil)) (e2 gSub (eVar 2) (e1 gLen (e1 (gFld (tbl [(21, 0)])) (eVar 1)))))))
  b_Poly_add_1
noncomputable abbrev b_Poly_add_3 : FS :=
  sSeq (sSet 3 (e2 gCat (e1 gList (e1 (gFld (tbl [(21, 0)])) (eVar 0))) (e2 gRep (eLst (aCons (eC (.int 0)) aNil)) (e2 gSub (eVar 2) (e1 gLen (e1 (gFld (tbl [(21, 0)])) (eVar 0)))))))
  b_Poly_add_2
noncomputable abbrev b_Poly_add_4 : FS :=
  sSeq (sSet 2 (e2 gMax (e1 gLen (e1 (gFld (tbl [(21, 0)])) (eVar 0))) (e1 gLen (e1 (gFld (tbl [(21, 0)])) (eVar 1)))))
  b_Poly_add_3
noncomputable abbrev b_Poly_add : FS := b_Poly_add_4
noncomputable def f_Poly_add : Fn := fnD 2 6 b_Poly_add
noncomputable abbrev b_Operator_mul_0 : FS :=
  sSetIx 2 (e2 gAdd (eVar 4) (eVar 6)) (e2 (gOwn gAdd sameC (tbl [(21, mfn 2 (fun ds => ds) f_Poly_add)])) (e2 gIx (eVar 2) (e2 gAdd (eVar 4) (eVar 6))) (e2 (gOwn gMul sameC (tbl [(21, mfn 2 (fun ds => ds) f_Poly_mul)])) (eVar 5) (eMe (tbl [(21, mfn 2 (fun ds => ds) f_Poly_shifted)]) (eVar 7) (aCons (eVar 4) aNil))))
noncomputable abbrev b_Operator_mul_1 : FS :=
  sFor (iEnS (e1 (gFld (tbl [(26, 0)])) (eVar 1))) (gtTup [6, 7])
  b_Operator_mul_0
noncomputable abbrev b_Operator_mul_2 : FS :=
  sRet (eBor 2 (eCa 1 m_Operator (aCons (eVar 2) aNil)))
noncomputable abbrev b_Operator_mul_3 : FS :=
  sSeq (sFor (iEnS (e1 (gFld (tbl [(26, 0)])) (eVar 0))) (gtTup [4, 5])
  b_Operator_mul_1)
  b_Operator_mul_2
noncomputable abbrev b_Operator_mul_4 : FS :=
  sSeq (sSet 2 (eLc [3] (iRng1 (e2 gAdd (e1 gLen (e1 (gFld (tbl [(26, 0)])) (eVar 0))) (e1 gLen (e1 (gFld (tbl [(26, 0)])) (eVar 1))))) (gtName 3) tTrue (eCa 1 (fun ds => m_Poly ((fun ds => ds ++ [(.int 1)]) ds)) (aCons (eLst aNil) aNil))))
  b_Operator_mul_3
noncomputable abbrev b_Operator_mul : FS := b_Operator_mul_4
noncomputable def f_Operator_mul : Fn := fnD 2 6 b_Operator_mul
noncomputable abbrev b_law_shift_0 : FS :=
  sSetIx 2 (eVar 4) (e2 gAdd (e2 gIx (eVar 2) (eVar 4)) (e2 gMul (eVar 1) (e2 gIx (eVar 2) (e2 gAdd (eVar 4) (eC (.int 1))))))
noncomputable abbrev b_law_shift_1 : FS :=
  sFor (iRngD (e2 gSub (e1 gLen (eVar 2)) (eC (.int 2))) (e2 gSub (eVar 3) (eC (.int 1)))) (gtName 4)
  b_law_shift_0
noncomputable abbrev b_law_shift_2 : FS :=
  sRetV 2
noncomputable abbrev b_law_shift_3 : FS :=
  sSeq (sFor (iRng1 (e2 gSub (e1 gLen (eVar 2)) (eC (.int 1)))) (gtName 3)
  b_law_shift_1)
  b_law_shift_2
noncomputable abbrev b_law_shift_4 : FS :=
  sSeq (sSet 2 (e1 gList (eVar 0)))
  b_law_shift_3
noncomputable abbrev b_law_shift : FS := b_law_shift_4
noncomputable def f_law_shift : Fn := fnD 2 3 b_law_shift
noncomputable abbrev b_law_move_0 : FS :=
  sRet (eTup (aCons (eCa 2 f_law_shift (aCons (e2 gIx (eVar 0) (eC (.int 0))) (aCons (eVar 1) aNil))) (aCons (e2 gIx (eVar 0) (eC (.int 1))) aNil)))
noncomputable abbrev b_law_move : FS := b_law_move_0
noncomputable def f_law_move : Fn := fnD 2 0 b_law_move
noncomputable abbrev b_law_mul_0 : FS :=
  sSetIx 2 (e2 gAdd (eVar 4) (eVar 5)) (e2 gAdd (e2 gIx (eVar 2) (e2 gAdd (eVar 4) (eVar 5))) (e2 gMul (e2 gIx (eVar 0) (eVar 4)) (e2 gIx (eVar 1) (eVar 5))))
noncomputable abbrev b_law_mul_1 : FS :=
  sFor (iRng1 (e1 gLen (eVar 1))) (gtName 5)
  b_law_mul_0
noncomputable abbrev b_law_mul_2 : FS :=
  sFrz 2 (sRet (eCa 1 f_law_trim (aCons (eVar 2) aNil)))
noncomputable abbrev b_law_mul_3 : FS :=
  sSeq (sFor (iRng1 (e1 gLen (eVar 0))) (gtName 4)
  b_law_mul_1)
  b_law_mul_2
noncomputable abbrev b_law_mul_4 : FS :=
  sSeq (sSet 2 (eLc [3] (iRng1 (e2 gAdd (e1 gLen (eVar 0)) (e1 gLen (eVar 1)))) (gtName 3) tTrue (eC (.int 0))))
  b_law_mul_3
noncomputable abbrev b_law_mul : FS := b_law_mul_4
noncomputable def f_law_mul : Fn := fnD 2 4 b_law_mul
noncomputable abbrev b_law_times_0 : FS :=
  sRet (eTup (aCons (eCa 2 f_law_mul (aCons (e2 gIx (eVar 0) (eC (.int 0))) (aCons (e2 gIx (eVar 1) (eC (.int 0))) aNil))) (aCons (e2 gMul (e2 gIx (eVar 0) (eC (.int 1))) (e2 gIx (eVar 1) (eC (.int 1)))) aNil)))
noncomputable abbrev b_law_times : FS := b_law_times_0
noncomputable def f_law_times : Fn := fnD 2 0 b_law_times
noncomputable abbrev b_law_scale_0 : FS :=
  sRet (eCa 1 f_law_trim (aCons (eLc [2] (iSeq (eVar 0)) (gtName 2) tTrue (e2 gMul (eVar 1) (eVar 2))) aNil))
noncomputable abbrev b_law_scale : FS := b_law_scale_0
noncomputable def f_law_scale : Fn := fnD 2 1 b_law_scale
noncomputable abbrev b_law_sum_0 : FS :=
  sSetIx 2 (eVar 4) (e2 gIx (eVar 0) (eVar 4))
noncomputable abbrev b_law_sum_1 : FS :=
  sSetIx 2 (eVar 5) (e2 gAdd (e2 gIx (eVar 2) (eVar 5)) (e2 gIx (eVar 1) (eVar 5)))
noncomputable abbrev b_law_sum_2 : FS :=
  sFrz 2 (sRet (eCa 1 f_law_trim (aCons (eVar 2) aNil)))
noncomputable abbrev b_law_sum_3 : FS :=
  sSeq (sFor (iRng1 (e1 gLen (eVar 1))) (gtName 5)
  b_law_sum_1)
  b_law_sum_2
noncomputable abbrev b_law_sum_4 : FS :=
  sSeq (sFor (iRng1 (e1 gLen (eVar 0))) (gtName 4)
  b_law_sum_0)
  b_law_sum_3
noncomputable abbrev b_law_sum_5 : FS :=
  sSeq (sSet 2 (eLc [3] (iRng1 (e2 gMax (e1 gLen (eVar 0)) (e1 gLen (eVar 1)))) (gtName 3) tTrue (eC (.int 0))))
  b_law_sum_4
noncomputable abbrev b_law_sum : FS := b_law_sum_5
noncomputable def f_law_sum : Fn := fnD 2 4 b_law_sum
noncomputable abbrev b_law_plus_0 : FS :=
  sRet (eTup (aCons (eCa 2 f_law_sum (aCons (eCa 2 f_law_scale (aCons (e2 gIx (eVar 0) (eC (.int 0))) (aCons (e2 gIx (eVar 1) (eC (.int 1))) aNil))) (aCons (eCa 2 f_law_scale (aCons (e2 gIx (eVar 1) (eC (.int 0))) (aCons (e2 gIx (eVar 0) (eC (.int 1))) aNil))) aNil))) (aCons (e2 gMul (e2 gIx (eVar 0) (eC (.int 1))) (e2 gIx (eVar 1) (eC (.int 1)))) aNil)))
noncomputable abbrev b_law_plus : FS := b_law_plus_0
noncomputable def f_law_plus : Fn := fnD 2 0 b_law_plus
noncomputable abbrev b_law_after_0 : FS :=
  sSetIx 2 (e2 gAdd (eVar 4) (eVar 5)) (eCa 2 f_law_plus (aCons (e2 gIx (eVar 2) (e2 gAdd (eVar 4) (eVar 5))) (aCons (eCa 2 f_law_times (aCons (e2 gIx (eVar 0) (eVar 4)) (aCons (eCa 2 f_law_move (aCons (e2 gIx (eVar 1) (eVar 5)) (aCons (eVar 4) aNil))) aNil))) aNil)))
noncomputable abbrev b_law_after_1 : FS :=
  sFor (iRng1 (e1 gLen (eVar 1))) (gtName 5)
  b_law_after_0
noncomputable abbrev b_law_after_2 : FS :=
  sFrz 2 (sRet (eCa 1 f_law_cut (aCons (eVar 2) aNil)))
noncomputable abbrev b_law_after_3 : FS :=
  sSeq (sFor (iRng1 (e1 gLen (eVar 0))) (gtName 4)
  b_law_after_1)
  b_law_after_2
noncomputable abbrev b_law_after_4 : FS :=
  sSeq (sSet 2 (eLc [3] (iRng1 (e2 gAdd (e1 gLen (eVar 0)) (e1 gLen (eVar 1)))) (gtName 3) tTrue (eTup (aCons (eLst aNil) (aCons (eC (.int 1)) aNil)))))
  b_law_after_3
noncomputable abbrev b_law_after : FS := b_law_after_4
noncomputable def f_law_after : Fn := fnD 2 4 b_law_after
noncomputable abbrev b_law_read_0 : FS :=
  sRet (eC .non)
noncomputable abbrev b_law_read_1 : FS :=
  sRet (eC .non)
noncomputable abbrev b_law_read_2 : FS :=
  sRet (eC .non)
noncomputable abbrev b_law_read_3 : FS :=
  sIf (tNot (tTru (eCa 1 f_law_is_whole (aCons (eVar 1) aNil))))
  b_law_read_2
  sNext
noncomputable abbrev b_law_read_4 : FS :=
  sRet (eTup (aCons (eCa 1 f_law_trim (aCons (e1 gList (e1 (gFld (tbl [(21, 0)])) (eVar 0))) aNil)) (aCons (e1 (gFld (tbl [(21, 1)])) (eVar 0)) aNil)))
noncomputable abbrev b_law_read_5 : FS :=
  sSeq (sFor (iSeq (e1 (gFld (tbl [(21, 0)])) (eVar 0))) (gtName 1)
  b_law_read_3)
  b_law_read_4
noncomputable abbrev b_law_read_6 : FS :=
  sSeq (sIf (tOr (tNot (tTru (eCa 1 f_law_is_whole (aCons (e1 (gFld (tbl [(21, 1)])) (eVar 0)) aNil)))) (tB (e2 gLt (e1 (gFld (tbl [(21, 1)])) (eVar 0)) (eC (.int 1)))))
  b_law_read_1
  sNext)
  b_law_read_5
noncomputable abbrev b_law_read_7 : FS :=
  sSeq (sIf (tOr (tNot (tTru (e1 (gIsi (ansC [] [(21, true)])) (eVar 0)))) (tNot (tTru (e1 (gIsi (ansB "tuple" [])) (e1 (gFld (tbl [(21, 0)])) (eVar 0))))))
  b_law_read_0
  sNext)
  b_law_read_6
noncomputable abbrev b_law_read : FS := b_law_read_7
noncomputable def f_law_read : Fn := fnD 1 1 b_law_read
noncomputable abbrev b_law_read_operator_0 : FS :=
  sRet (eC .non)
noncomputable abbrev b_law_read_operator_1 : FS :=
  sRet (eC .non)
noncomputable abbrev b_law_read_operator_2 : FS :=
  sRetV 1
noncomputable abbrev b_law_read_operator_3 : FS :=
  sSeq (sIf (tBor 1 (tOr (tB (e2 gInD (eC .non) (eVar 1))) (tB (e2 gNeS (e1 gLen (eCa 1 f_law_cut (aCons (eVar 1) aNil))) (e1 gLen (eVar 1))))))
  b_law_read_operator_1
  sNext)
  b_law_read_operator_2
noncomputable abbrev b_law_read_operator_4 : FS :=
  sSeq (sSet 1 (eLc [2] (iSeq (e1 (gFld (tbl [(26, 0)])) (eVar 0))) (gtName 2) tTrue (eCa 1 f_law_read (aCons (eVar 2) aNil))))
  b_law_read_operator_3
noncomputable abbrev b_law_read_operator_5 : FS :=
  sSeq (sIf (tOr (tNot (tTru (e1 (gIsi (ansC [] [(26, true)])) (eVar 0)))) (tNot (tTru (e1 (gIsi (ansB "tuple" [])) (e1 (gFld (tbl [(26, 0)])) (eVar 0))))))
  b_law_read_operator_0
  sNext)
  b_law_read_operator_4
noncomputable abbrev b_law_read_operator : FS := b_law_read_operator_5
noncomputable def f_law_read_operator : Fn := fnD 1 2 b_law_read_operator
noncomputable abbrev b_law_alike_0 : FS :=
  sRet (e2 gEqD (eCa 2 f_law_scale (aCons (e2 gIx (eVar 0) (eC (.int 0))) (aCons (e2 gIx (eVar 1) (eC (.int 1))) aNil))) (eCa 2 f_law_scale (aCons (e2 gIx (eVar 1) (eC (.int 0))) (aCons (e2 gIx (eVar 0) (eC (.int 1))) aNil))))
noncomputable abbrev b_law_alike : FS := b_law_alike_0
noncomputable def f_law_alike : Fn := fnD 2 0 b_law_alike
noncomputable abbrev b_law_same_0 : FS :=
  sRet (eC (.bl false))
noncomputable abbrev b_law_same_1 : FS :=
  sRet (eC (.bl false))
noncomputable abbrev b_law_same_2 : FS :=
  sIf (tNot (tTru (eCa 2 f_law_alike (aCons (e2 gIx (eVar 0) (eVar 2)) (aCons (e2 gIx (eVar 1) (eVar 2)) aNil)))))
  b_law_same_1
  sNext
noncomputable abbrev b_law_same_3 : FS :=
  sRet (eC (.bl true))
noncomputable abbrev b_law_same_4 : FS :=
  sSeq (sFor (iRng1 (e1 gLen (eVar 1))) (gtName 2)
  b_law_same_2)
  b_law_same_3
noncomputable abbrev b_law_same_5 : FS :=
  sSeq (sIf (tOr (tB (e2 gIsN (eVar 0) (eC .non))) (tB (e2 gNeS (e1 gLen (eVar 0)) (e1 gLen (eVar 1)))))
  b_law_same_0
  sNext)
  b_law_same_4
noncomputable abbrev b_law_same : FS := b_law_same_5
noncomputable def f_law_same : Fn := fnD 2 1 b_law_same
noncomputable abbrev b_law_are_0 : FS :=
  sRet (eC (.bl false))
noncomputable abbrev b_law_are_1 : FS :=
  sRet (eC (.bl false))
noncomputable abbrev b_law_are_2 : FS :=
  sIf (tNot (tTru (eCa 2 f_law_is (aCons (e2 gIx (eVar 0) (eVar 2)) (aCons (e2 gIx (eVar 1) (eVar 2)) aNil)))))
  b_law_are_1
  sNext
noncomputable abbrev b_law_are_3 : FS :=
  sRet (eC (.bl true))
noncomputable abbrev b_law_are_4 : FS :=
  sSeq (sFor (iRng1 (e1 gLen (eVar 1))) (gtName 2)
  b_law_are_2)
  b_law_are_3
noncomputable abbrev b_law_are_5 : FS :=
  sSeq (sIf (tOr (tNot (tTru (e1 (gIsi (ansB "list" [])) (eVar 0)))) (tB (e2 gNeS (e1 gLen (eVar 0)) (e1 gLen (eVar 1)))))
  b_law_are_0
  sNext)
  b_law_are_4
noncomputable abbrev b_law_are : FS := b_law_are_5
noncomputable def f_law_are : Fn := fnD 2 1 b_law_are
noncomputable abbrev b_law_0 : FS :=
  sSet 2 (eLst (aCons (eC (.int 3)) (aCons (e2 gIx (eVar 2) (eC (.int 1))) aNil)))
noncomputable abbrev b_law_1 : FS :=
  sSet 6 (e2 gMod (e1 gInt (e2 gIx (eVar 1) (eC (.int 1)))) (eC (.int 201)))
noncomputable abbrev b_law_2 : FS :=
  sSet 7 (eCa 2 f_law_pairs (aCons (eCa 2 f_law_cell (aCons (eVar 0) (aCons (eC (.int 2)) aNil))) (aCons (e2 gAdd (eVar 6) (eC (.int 9))) aNil)))
noncomputable abbrev b_law_3 : FS :=
  sRet (eC (.bl false))
noncomputable abbrev b_law_4 : FS :=
  sRet (eC (.bl false))
noncomputable abbrev b_law_5 : FS :=
  sRet (eC (.bl false))
noncomputable abbrev b_law_6 : FS :=
  sRet (eC (.bl false))
noncomputable abbrev b_law_7 : FS :=
  sRet (eBor 7 (eBor 9 (eCa 2 f_law_are (aCons (eVar 9) (aCons (eVar 7) aNil)))))
noncomputable abbrev b_law_8 : FS :=
  sSeq (sIf (tBor 5 (tBor 4 (tOr (tNot (tTru (eCa 2 f_law_same (aCons (eCa 1 f_law_read_operator (aCons (eVar 10) aNil)) (aCons (eVar 4) aNil))))) (tNot (tTru (eCa 2 f_law_same (aCons (eCa 1 f_law_read_operator (aCons (eVar 11) aNil)) (aCons (eVar 5) aNil))))))))
  b_law_6
  sNext)
  b_law_7
noncomputable abbrev b_law_9 : FS :=
  sSeq (sIf (tBor 5 (tBor 4 (tNot (tTru (eCa 2 f_law_same (aCons (eCa 1 f_law_read_operator (aCons (eVar 13) aNil)) (aCons (eCa 2 f_law_after (aCons (eVar 4) (aCons (eVar 5) aNil))) aNil)))))))
  b_law_5
  sNext)
  b_law_8
noncomputable abbrev b_law_10 : FS :=
  sSeq (sIf (tBor 12 (tBor 4 (tBor 9 (tNot (tTru (eCa 2 f_law_is (aCons (eMe (tbl [(26, mfn 3 (fun ds => ds) f_Operator_apply_at)]) (eVar 13) (aCons (eVar 9) (aCons (eVar 6) aNil))) (aCons (eCa 3 f_law_applied (aCons (eVar 4) (aCons (eVar 12) (aCons (eVar 6) aNil)))) aNil))))))))
  b_law_4
  sNext)
  b_law_9
noncomputable abbrev b_law_11 : FS :=
  sSeq (sSet 13 (e2 (gOwn gMul sameC (tbl [(26, mfn 2 (fun ds => ds) f_Operator_mul)])) (eVar 10) (eVar 11)))
  b_law_10
noncomputable abbrev b_law_12 : FS :=
  sSeq (sSet 12 (eBor 7 (eBor 5 (e2 gCat (eLc [8] (iRng1 (eVar 6)) (gtName 8) tTrue (eTup (aCons (eC (.int 0)) (aCons (eC (.int 1)) aNil)))) (eLc [8] (iRng1 (e1 gLen (eVar 4))) (gtName 8) tTrue (eCa 3 f_law_applied (aCons (eVar 5) (aCons (eVar 7) (aCons (e2 gAdd (eVar 6) (eVar 8)) aNil)))))))))
  b_law_11
noncomputable abbrev b_law_13 : FS :=
  sSeq (sIf (tBor 7 (tBor 4 (tBor 9 (tNot (tTru (eCa 2 f_law_is (aCons (eMe (tbl [(26, mfn 3 (fun ds => ds) f_Operator_apply_at)]) (eVar 10) (aCons (eVar 9) (aCons (eVar 6) aNil))) (aCons (eCa 3 f_law_applied (aCons (eVar 4) (aCons (eVar 7) (aCons (eVar 6) aNil)))) aNil))))))))
  b_law_3
  sNext)
  b_law_12
noncomputable abbrev b_law_14 : FS :=
  sSeq (sSet 11 (eBor 5 (eCa 1 f_law_operator (aCons (eVar 5) aNil))))
  b_law_13
noncomputable abbrev b_law_15 : FS :=
  sSeq (sSet 10 (eBor 4 (eCa 1 f_law_operator (aCons (eVar 4) aNil))))
  b_law_14
noncomputable abbrev b_law_16 : FS :=
  sSeq (sFrz 7 (sSet 9 (eCa 1 f_law_vector (aCons (eVar 7) aNil))))
  b_law_15
noncomputable abbrev b_law_17 : FS :=
  sSeq (sIf (tB (e2 gLt (eVar 6) (eC (.int 13))))
  b_law_2
  sNext)
  b_law_16
noncomputable abbrev b_law_18 : FS :=
  sSeq (sSet 7 (e2 gCat (eLc [8] (iRng1 (eVar 6)) (gtName 8) tTrue (eTup (aCons (eC (.int 0)) (aCons (eC (.int 1)) aNil)))) (eCa 2 f_law_pairs (aCons (eCa 2 f_law_cell (aCons (eVar 0) (aCons (eC (.int 2)) aNil))) (aCons (eC (.int 9)) aNil)))))
  b_law_17
noncomputable abbrev b_law_19 : FS :=
  sSeq (sIf (tB (e2 gEqS (e2 gMod (e1 gInt (e2 gDiv (e2 gIx (eVar 1) (eC (.int 2))) (eC (.int 13)))) (eC (.int 8))) (eC (.int 1))))
  b_law_1
  sNext)
  b_law_18
noncomputable abbrev b_law_20 : FS :=
  sSeq (sSet 6 (e2 gMod (e1 gInt (e2 gIx (eVar 1) (eC (.int 2)))) (eC (.int 13))))
  b_law_19
noncomputable abbrev b_law_21 : FS :=
  sSeq (sSet 5 (eCa 1 f_law_cut (aCons (eCa 4 f_law_drawn (aCons (eVar 0) (aCons (eC (.int 8)) (aCons (e2 gIx (eVar 2) (eC (.int 1))) (aCons (eC (.int 2)) aNil))))) aNil)))
  b_law_20
noncomputable abbrev b_law_22 : FS :=
  sSeq (sSet 4 (eCa 1 f_law_cut (aCons (eCa 4 f_law_drawn (aCons (eVar 0) (aCons (eC (.int 4)) (aCons (e2 gIx (eVar 2) (eC (.int 0))) (aCons (eC (.int 2)) aNil))))) aNil)))
  b_law_21
noncomputable abbrev b_law_23 : FS :=
  sSeq (sIf (tB (e2 gEqS (e2 gMod (e1 gInt (e2 gDiv (e2 gIx (eVar 1) (eC (.int 0))) (eC (.int 4)))) (eC (.int 8))) (eC (.int 1))))
  b_law_0
  sNext)
  b_law_22
noncomputable abbrev b_law_24 : FS :=
  sSeq (sSet 2 (eLc [3] (iSeq (eSl (eVar 1) oNone (oSome (eC (.int 2))))) (gtName 3) tTrue (e2 gSub (e2 gMod (e1 gInt (eVar 3)) (eC (.int 4))) (eC (.int 1)))))
  b_law_23
noncomputable abbrev b_law_25 : FS :=
  sSeq (sSet 1 (eCa 3 f_law_digits (aCons (eCa 2 f_law_cell (aCons (eVar 0) (aCons (eC (.int 0)) aNil))) (aCons (eC (.int 1608)) (aCons (eC (.int 3)) aNil)))))
  b_law_24
noncomputable abbrev b_law : FS := b_law_25
noncomputable def f_law : Fn := fnD 1 13 b_law
theorem sc_law_cell : FnScope ["_law_script", "_law_k"] ["_law_script", "_law_k"] (defScope s_law_cell) := ⟨rfl, rfl, rfl, by decide +kernel, rfl, by decide +kernel, by decide +kernel⟩
theorem sc_law_digits : FnScope ["_law_cell_here", "_law_limit", "_law_count", "_law_rest", "_law_whole", "_law_found", "_law_k", "_law_mixed"] ["_law_cell_here", "_law_limit", "_law_count"] (defScope s_law_digits) := ⟨rfl, rfl, rfl, by decide +kernel, rfl, by decide +kernel, by decide +kernel⟩
theorem sc_law_trim : FnScope ["_law_xs", "_law_size", "_law_k"] ["_law_xs"] (defScope s_law_trim) := ⟨rfl, rfl, rfl, by decide +kernel, rfl, by decide +kernel, by decide +kernel⟩
theorem sc_law_draw : FnScope ["_law_cell_here", "_law_most", "_law_ds", "_law_size", "_law_coefs", "_law_d"] ["_law_cell_here", "_law_most"] (defScope s_law_draw) := ⟨rfl, rfl, rfl, by decide +kernel, rfl, by decide +kernel, by decide +kernel⟩
theorem sc_law_drawn : FnScope ["_law_script", "_law_at_here", "_law_order", "_law_most", "_law_parts", "_law_j"] ["_law_script", "_law_at_here", "_law_order", "_law_most"] (defScope s_law_drawn) := ⟨rfl, rfl, rfl, by decide +kernel, rfl, by decide +kernel, by decide +kernel⟩
theorem sc_law_cut : FnScope ["_law_parts", "_law_size", "_law_k"] ["_law_parts"] (defScope s_law_cut) := ⟨rfl, rfl, rfl, by decide +kernel, rfl, by decide +kernel, by decide +kernel⟩
theorem sc_law_pairs : FnScope ["_law_cell_here", "_law_count", "_law_d"] ["_law_cell_here", "_law_count"] (defScope s_law_pairs) := ⟨rfl, rfl, rfl, by decide +kernel, rfl, by decide +kernel, by decide +kernel⟩
theorem sc_Fraction_init : FnScope ["self", "num", "den", "divisor"] ["self", "num", "den"] (defScope s_Fraction_init) := ⟨rfl, rfl, rfl, by decide +kernel, rfl, by decide +kernel, by decide +kernel⟩
theorem sc_law_vector : FnScope ["_law_pairs_here", "_law_pair"] ["_law_pairs_here"] (defScope s_law_vector) := ⟨rfl, rfl, rfl, by decide +kernel, rfl, by decide +kernel, by decide +kernel⟩
theorem sc_trimmed : FnScope ["numbers", "size"] ["numbers"] (defScope s_trimmed) := ⟨rfl, rfl, rfl, by decide +kernel, rfl, by decide +kernel, by decide +kernel⟩
theorem sc_content : FnScope ["numbers", "divisor", "number"] ["numbers"] (defScope s_content) := ⟨rfl, rfl, rfl, by decide +kernel, rfl, by decide +kernel, by decide +kernel⟩
theorem sc_Poly_init : FnScope ["self", "coefs", "den", "numbers", "divisor", "number"] ["self", "coefs", "den"] (defScope s_Poly_init) := ⟨rfl, rfl, rfl, by decide +kernel, rfl, by decide +kernel, by decide +kernel⟩
theorem sc_law_poly : FnScope ["_law_part"] ["_law_part"] (defScope s_law_poly) := ⟨rfl, rfl, rfl, by decide +kernel, rfl, by decide +kernel, by decide +kernel⟩
theorem sc_Poly_is_zero : FnScope ["self"] ["self"] (defScope s_Poly_is_zero) := ⟨rfl, rfl, rfl, by decide +kernel, rfl, by decide +kernel, by decide +kernel⟩
theorem sc_Operator_init : FnScope ["self", "coefs", "kept"] ["self", "coefs"] (defScope s_Operator_init) := ⟨rfl, rfl, rfl, by decide +kernel, rfl, by decide +kernel, by decide +kernel⟩
theorem sc_law_operator : FnScope ["_law_parts", "_law_part"] ["_law_parts"] (defScope s_law_operator) := ⟨rfl, rfl, rfl, by decide +kernel, rfl, by decide +kernel, by decide +kernel⟩
theorem sc_law_at : FnScope ["_law_xs", "_law_k", "_law_total", "_law_x"] ["_law_xs", "_law_k"] (defScope s_law_at) := ⟨rfl, rfl, rfl, by decide +kernel, rfl, by decide +kernel, by decide +kernel⟩
theorem sc_law_applied : FnScope ["_law_parts", "_law_values", "_law_n", "_law_num", "_law_den", "_law_j", "_law_top", "_law_bottom"] ["_law_parts", "_law_values", "_law_n"] (defScope s_law_applied) := ⟨rfl, rfl, rfl, by decide +kernel, rfl, by decide +kernel, by decide +kernel⟩
theorem sc_Poly_at : FnScope ["self", "k", "total", "number"] ["self", "k"] (defScope s_Poly_at) := ⟨rfl, rfl, rfl, by decide +kernel, rfl, by decide +kernel, by decide +kernel⟩
theorem sc_Fraction_mul : FnScope ["self", "other"] ["self", "other"] (defScope s_Fraction_mul) := ⟨rfl, rfl, rfl, by decide +kernel, rfl, by decide +kernel, by decide +kernel⟩
theorem sc_Fraction_add : FnScope ["self", "other"] ["self", "other"] (defScope s_Fraction_add) := ⟨rfl, rfl, rfl, by decide +kernel, rfl, by decide +kernel, by decide +kernel⟩
theorem sc_Operator_apply_at : FnScope ["self", "values", "n", "total", "j", "p"] ["self", "values", "n"] (defScope s_Operator_apply_at) := ⟨rfl, rfl, rfl, by decide +kernel, rfl, by decide +kernel, by decide +kernel⟩
theorem sc_law_is_whole : FnScope ["_law_x"] ["_law_x"] (defScope s_law_is_whole) := ⟨rfl, rfl, rfl, by decide +kernel, rfl, by decide +kernel, by decide +kernel⟩
theorem sc_law_is : FnScope ["_law_x", "_law_pair"] ["_law_x", "_law_pair"] (defScope s_law_is) := ⟨rfl, rfl, rfl, by decide +kernel, rfl, by decide +kernel, by decide +kernel⟩
theorem sc_Poly_shifted : FnScope ["self", "step", "numbers", "i", "j"] ["self", "step"] (defScope s_Poly_shifted) := ⟨rfl, rfl, rfl, by decide +kernel, rfl, by decide +kernel, by decide +kernel⟩
theorem sc_Poly_mul : FnScope ["self", "other", "numbers", "_", "i", "a", "j", "b"] ["self", "other"] (defScope s_Poly_mul) := ⟨rfl, rfl, rfl, by decide +kernel, rfl, by decide +kernel, by decide +kernel⟩
theorem sc_Poly_add : FnScope ["self", "other", "size", "first", "second", "numbers", "a", "b"] ["self", "other"] (defScope s_Poly_add) := ⟨rfl, rfl, rfl, by decide +kernel, rfl, by decide +kernel, by decide +kernel⟩
theorem sc_Operator_mul : FnScope ["self", "other", "parts", "_", "i", "a", "j", "b"] ["self", "other"] (defScope s_Operator_mul) := ⟨rfl, rfl, rfl, by decide +kernel, rfl, by decide +kernel, by decide +kernel⟩
theorem sc_law_shift : FnScope ["_law_xs", "_law_step", "_law_found", "_law_i", "_law_j"] ["_law_xs", "_law_step"] (defScope s_law_shift) := ⟨rfl, rfl, rfl, by decide +kernel, rfl, by decide +kernel, by decide +kernel⟩
theorem sc_law_move : FnScope ["_law_part", "_law_step"] ["_law_part", "_law_step"] (defScope s_law_move) := ⟨rfl, rfl, rfl, by decide +kernel, rfl, by decide +kernel, by decide +kernel⟩
theorem sc_law_mul : FnScope ["_law_xs", "_law_ys", "_law_found", "_law_k", "_law_i", "_law_j"] ["_law_xs", "_law_ys"] (defScope s_law_mul) := ⟨rfl, rfl, rfl, by decide +kernel, rfl, by decide +kernel, by decide +kernel⟩
theorem sc_law_times : FnScope ["_law_a", "_law_b"] ["_law_a", "_law_b"] (defScope s_law_times) := ⟨rfl, rfl, rfl, by decide +kernel, rfl, by decide +kernel, by decide +kernel⟩
theorem sc_law_scale : FnScope ["_law_xs", "_law_factor", "_law_x"] ["_law_xs", "_law_factor"] (defScope s_law_scale) := ⟨rfl, rfl, rfl, by decide +kernel, rfl, by decide +kernel, by decide +kernel⟩
theorem sc_law_sum : FnScope ["_law_xs", "_law_ys", "_law_found", "_law_k", "_law_i", "_law_j"] ["_law_xs", "_law_ys"] (defScope s_law_sum) := ⟨rfl, rfl, rfl, by decide +kernel, rfl, by decide +kernel, by decide +kernel⟩
theorem sc_law_plus : FnScope ["_law_a", "_law_b"] ["_law_a", "_law_b"] (defScope s_law_plus) := ⟨rfl, rfl, rfl, by decide +kernel, rfl, by decide +kernel, by decide +kernel⟩
theorem sc_law_after : FnScope ["_law_first", "_law_second", "_law_found", "_law_k", "_law_i", "_law_j"] ["_law_first", "_law_second"] (defScope s_law_after) := ⟨rfl, rfl, rfl, by decide +kernel, rfl, by decide +kernel, by decide +kernel⟩
theorem sc_law_read : FnScope ["_law_p", "_law_x"] ["_law_p"] (defScope s_law_read) := ⟨rfl, rfl, rfl, by decide +kernel, rfl, by decide +kernel, by decide +kernel⟩
theorem sc_law_read_operator : FnScope ["_law_operator_here", "_law_found", "_law_p"] ["_law_operator_here"] (defScope s_law_read_operator) := ⟨rfl, rfl, rfl, by decide +kernel, rfl, by decide +kernel, by decide +kernel⟩
theorem sc_law_alike : FnScope ["_law_a", "_law_b"] ["_law_a", "_law_b"] (defScope s_law_alike) := ⟨rfl, rfl, rfl, by decide +kernel, rfl, by decide +kernel, by decide +kernel⟩
theorem sc_law_same : FnScope ["_law_found", "_law_parts", "_law_k"] ["_law_found", "_law_parts"] (defScope s_law_same) := ⟨rfl, rfl, rfl, by decide +kernel, rfl, by decide +kernel, by decide +kernel⟩
theorem sc_law_are : FnScope ["_law_xs", "_law_pairs_here", "_law_k"] ["_law_xs", "_law_pairs_here"] (defScope s_law_are) := ⟨rfl, rfl, rfl, by decide +kernel, rfl, by decide +kernel, by decide +kernel⟩
theorem sc_law : FnScope ["_law_script", "_law_choices", "_law_orders", "_law_d", "_law_first", "_law_second", "_law_n", "_law_pairs_here", "_law_k", "_law_values", "_law_a", "_law_b", "_law_between", "_law_product"] ["_law_script"] (defScope s_law) := ⟨rfl, rfl, rfl, by decide +kernel, rfl, by decide +kernel, by decide +kernel⟩
def h_law_cell : DefP := ⟨atG "_law_cell", "_law_cell", "_law_cell", defArgs s_law_cell, defBody s_law_cell, defScope s_law_cell, []⟩
def h_law_digits : DefP := ⟨atG "_law_digits", "_law_digits", "_law_digits", defArgs s_law_digits, defBody s_law_digits, defScope s_law_digits, []⟩
def h_law_trim : DefP := ⟨atG "_law_trim", "_law_trim", "_law_trim", defArgs s_law_trim, defBody s_law_trim, defScope s_law_trim, []⟩
def h_law_draw : DefP := ⟨atG "_law_draw", "_law_draw", "_law_draw", defArgs s_law_draw, defBody s_law_draw, defScope s_law_draw, []⟩
def h_law_drawn : DefP := ⟨atG "_law_drawn", "_law_drawn", "_law_drawn", defArgs s_law_drawn, defBody s_law_drawn, defScope s_law_drawn, []⟩
def h_law_cut : DefP := ⟨atG "_law_cut", "_law_cut", "_law_cut", defArgs s_law_cut, defBody s_law_cut, defScope s_law_cut, []⟩
def h_law_pairs : DefP := ⟨atG "_law_pairs", "_law_pairs", "_law_pairs", defArgs s_law_pairs, defBody s_law_pairs, defScope s_law_pairs, []⟩
def h_Fraction_init : DefP := ⟨atM "Fraction" "__init__", "__init__", "Fraction.__init__", defArgs s_Fraction_init, defBody s_Fraction_init, defScope s_Fraction_init, [(.int 1)]⟩
def h_law_vector : DefP := ⟨atG "_law_vector", "_law_vector", "_law_vector", defArgs s_law_vector, defBody s_law_vector, defScope s_law_vector, []⟩
def h_trimmed : DefP := ⟨atG "trimmed", "trimmed", "trimmed", defArgs s_trimmed, defBody s_trimmed, defScope s_trimmed, []⟩
def h_content : DefP := ⟨atG "content", "content", "content", defArgs s_content, defBody s_content, defScope s_content, []⟩
def h_Poly_init : DefP := ⟨atM "Poly" "__init__", "__init__", "Poly.__init__", defArgs s_Poly_init, defBody s_Poly_init, defScope s_Poly_init, [(.int 1)]⟩
def h_law_poly : DefP := ⟨atG "_law_poly", "_law_poly", "_law_poly", defArgs s_law_poly, defBody s_law_poly, defScope s_law_poly, []⟩
def h_Poly_is_zero : DefP := ⟨behind "property" "Poly" "is_zero", "is_zero", "Poly.is_zero", defArgs s_Poly_is_zero, defBody s_Poly_is_zero, defScope s_Poly_is_zero, []⟩
def h_Operator_init : DefP := ⟨atM "Operator" "__init__", "__init__", "Operator.__init__", defArgs s_Operator_init, defBody s_Operator_init, defScope s_Operator_init, []⟩
def h_law_operator : DefP := ⟨atG "_law_operator", "_law_operator", "_law_operator", defArgs s_law_operator, defBody s_law_operator, defScope s_law_operator, []⟩
def h_law_at : DefP := ⟨atG "_law_at", "_law_at", "_law_at", defArgs s_law_at, defBody s_law_at, defScope s_law_at, []⟩
def h_law_applied : DefP := ⟨atG "_law_applied", "_law_applied", "_law_applied", defArgs s_law_applied, defBody s_law_applied, defScope s_law_applied, []⟩
def h_Poly_at : DefP := ⟨atM "Poly" "at", "at", "Poly.at", defArgs s_Poly_at, defBody s_Poly_at, defScope s_Poly_at, []⟩
def h_Fraction_mul : DefP := ⟨atM "Fraction" "__mul__", "__mul__", "Fraction.__mul__", defArgs s_Fraction_mul, defBody s_Fraction_mul, defScope s_Fraction_mul, []⟩
def h_Fraction_add : DefP := ⟨atM "Fraction" "__add__", "__add__", "Fraction.__add__", defArgs s_Fraction_add, defBody s_Fraction_add, defScope s_Fraction_add, []⟩
def h_Operator_apply_at : DefP := ⟨atM "Operator" "apply_at", "apply_at", "Operator.apply_at", defArgs s_Operator_apply_at, defBody s_Operator_apply_at, defScope s_Operator_apply_at, []⟩
def h_law_is_whole : DefP := ⟨atG "_law_is_whole", "_law_is_whole", "_law_is_whole", defArgs s_law_is_whole, defBody s_law_is_whole, defScope s_law_is_whole, []⟩
def h_law_is : DefP := ⟨atG "_law_is", "_law_is", "_law_is", defArgs s_law_is, defBody s_law_is, defScope s_law_is, []⟩
def h_Poly_shifted : DefP := ⟨atM "Poly" "shifted", "shifted", "Poly.shifted", defArgs s_Poly_shifted, defBody s_Poly_shifted, defScope s_Poly_shifted, []⟩
def h_Poly_mul : DefP := ⟨atM "Poly" "__mul__", "__mul__", "Poly.__mul__", defArgs s_Poly_mul, defBody s_Poly_mul, defScope s_Poly_mul, []⟩
def h_Poly_add : DefP := ⟨atM "Poly" "__add__", "__add__", "Poly.__add__", defArgs s_Poly_add, defBody s_Poly_add, defScope s_Poly_add, []⟩
def h_Operator_mul : DefP := ⟨atM "Operator" "__mul__", "__mul__", "Operator.__mul__", defArgs s_Operator_mul, defBody s_Operator_mul, defScope s_Operator_mul, []⟩
def h_law_shift : DefP := ⟨atG "_law_shift", "_law_shift", "_law_shift", defArgs s_law_shift, defBody s_law_shift, defScope s_law_shift, []⟩
def h_law_move : DefP := ⟨atG "_law_move", "_law_move", "_law_move", defArgs s_law_move, defBody s_law_move, defScope s_law_move, []⟩
def h_law_mul : DefP := ⟨atG "_law_mul", "_law_mul", "_law_mul", defArgs s_law_mul, defBody s_law_mul, defScope s_law_mul, []⟩
def h_law_times : DefP := ⟨atG "_law_times", "_law_times", "_law_times", defArgs s_law_times, defBody s_law_times, defScope s_law_times, []⟩
def h_law_scale : DefP := ⟨atG "_law_scale", "_law_scale", "_law_scale", defArgs s_law_scale, defBody s_law_scale, defScope s_law_scale, []⟩
def h_law_sum : DefP := ⟨atG "_law_sum", "_law_sum", "_law_sum", defArgs s_law_sum, defBody s_law_sum, defScope s_law_sum, []⟩
def h_law_plus : DefP := ⟨atG "_law_plus", "_law_plus", "_law_plus", defArgs s_law_plus, defBody s_law_plus, defScope s_law_plus, []⟩
def h_law_after : DefP := ⟨atG "_law_after", "_law_after", "_law_after", defArgs s_law_after, defBody s_law_after, defScope s_law_after, []⟩
def h_law_read : DefP := ⟨atG "_law_read", "_law_read", "_law_read", defArgs s_law_read, defBody s_law_read, defScope s_law_read, []⟩
def h_law_read_operator : DefP := ⟨atG "_law_read_operator", "_law_read_operator", "_law_read_operator", defArgs s_law_read_operator, defBody s_law_read_operator, defScope s_law_read_operator, []⟩
def h_law_alike : DefP := ⟨atG "_law_alike", "_law_alike", "_law_alike", defArgs s_law_alike, defBody s_law_alike, defScope s_law_alike, []⟩
def h_law_same : DefP := ⟨atG "_law_same", "_law_same", "_law_same", defArgs s_law_same, defBody s_law_same, defScope s_law_same, []⟩
def h_law_are : DefP := ⟨atG "_law_are", "_law_are", "_law_are", defArgs s_law_are, defBody s_law_are, defScope s_law_are, []⟩
def h_law : DefP := ⟨atG "law", "law", "law", defArgs s_law, defBody s_law, defScope s_law, []⟩
def fns : List DefP := [h_law_cell, h_law_digits, h_law_trim, h_law_draw, h_law_drawn, h_law_cut, h_law_pairs, h_Fraction_init, h_law_vector, h_trimmed, h_content, h_Poly_init, h_law_poly, h_Poly_is_zero, h_Operator_init, h_law_operator, h_law_at, h_law_applied, h_Poly_at, h_Fraction_mul, h_Fraction_add, h_Operator_apply_at, h_law_is_whole, h_law_is, h_Poly_shifted, h_Poly_mul, h_Poly_add, h_Operator_mul, h_law_shift, h_law_move, h_law_mul, h_law_times, h_law_scale, h_law_sum, h_law_plus, h_law_after, h_law_read, h_law_read_operator, h_law_alike, h_law_same, h_law_are, h_law]
def fas : List He.Fa := [.glo "_law_cell", .glo "_law_digits", .free "int", .glo "_law_drawn", .glo "_law_cut", .free "range", .glo "_law_pairs", .glo "_law_vector", .glo "_law_operator", .glo "_law_applied", .meth "Operator" "apply_at", .glo "_law_is", .free "len", .meth "Operator" "__mul__", .glo "_law_after", .glo "_law_read_operator", .glo "_law_same", .glo "_law_are", .free "abs", .glo "_law_draw", .glo "_law_trim", .glo "Fraction", .mkr "Fraction", .exc "DivisionByZero", .glo "DivisionByZero", .glo "_law_poly", .glo "Operator", .mkr "Operator", .free "list", .glo "Poly", .mkr "Poly", .glo "trimmed", .glo "content", .free "tuple", .glo "_law_at", .free "reversed", .free "enumerate", .meth "Poly" "at", .meth "Fraction" "__mul__", .meth "Fraction" "__add__", .glo "_law_is_whole", .free "isinstance", .free "bool", .meth "Poly" "shifted", .meth "Poly" "__mul__", .meth "Poly" "__add__", .free "max", .free "zip", .glo "_law_move", .glo "_law_times", .glo "_law_plus", .glo "_law_shift", .glo "_law_mul", .glo "_law_scale", .glo "_law_sum", .glo "_law_read", .glo "_law_alike", .glo "law", .cls "Fraction", .noat "Fraction" "num", .noat "Fraction" "den", .cls "Poly", .noat "Poly" "coefs", .noat "Poly" "den", .cls "Operator", .noat "Operator" "coefs"]
def bls : List (PySem.W.Frag → Bool) := [seerB, sfB "Operator", bltB "gcd" "math.gcd", propB "Poly" "is_zero", sfB "Fraction", kitCC "Fraction" "Fraction" true, sfB "Poly", kitCC "Operator" "Operator" true, kitCC "Poly" "Poly" true, isi0, isiB "Fraction", isiB "Poly", isiB "Operator"]
abbrev Fx (P : Program) (K : PySem.W.Frag) (mg : Str → Option Value) : Prop := FxP fas fns bls P K mg
section
variable {P : Program} {w : World} {K : PySem.W.Frag} {mg : Str → Option Value} {base : Heap}
theorem cd_Fraction (fx : Fx P K mg) : ClsD K (tab K) 20 := ⟨fx.cls 58, all_cons (fx.noat 59) (all_cons (fx.noat 60) all_nil), (by show (fls 20).Nodup; decide), (by show (fls 20).length < 1000; decide)⟩
theorem isi_Fraction (fx : Fx P K mg) : IsiC K (tab K) 20 := isiB_ok (C := "Fraction") (fx.cls 58) rfl (fx.bool 9) (fx.bool 10)
theorem cd_Poly (fx : Fx P K mg) : ClsD K (tab K) 21 := ⟨fx.cls 61, all_cons (fx.noat 62) (all_cons (fx.noat 63) all_nil), (by show (fls 21).Nodup; decide), (by show (fls 21).length < 1000; decide)⟩
theorem isi_Poly (fx : Fx P K mg) : IsiC K (tab K) 21 := isiB_ok (C := "Poly") (fx.cls 61) rfl (fx.bool 9) (fx.bool 11)
theorem cd_Operator (fx : Fx P K mg) : ClsD K (tab K) 26 := ⟨fx.cls 64, all_cons (fx.noat 65) all_nil, (by show (fls 26).Nodup; decide), (by show (fls 26).length < 1000; decide)⟩
theorem isi_Operator (fx : Fx P K mg) : IsiC K (tab K) 26 := isiB_ok (C := "Operator") (fx.cls 64) rfl (fx.bool 9) (fx.bool 12)
theorem ok_law_cell (fx : Fx P K mg) : ∃ fd, FunD K "_law_cell" "_law_cell" (defArgs s_law_cell) (defBody s_law_cell) (defScope s_law_cell) (h_law_cell.dv K) [] ((atG "_law_cell") K) fd ∧ FnOk P w K mg base (L2.CX P w) 1 ((atG "_law_cell") K) fd ["_law_script", "_law_k"] (spD K (tab K) f_law_cell) := by
  obtain ⟨fd, F⟩ := fx.fun_ 0 (d := h_law_cell)
  exact ⟨fd, F, fnOk_of F sc_law_cell rfl rfl fun cdv A outer s H E hr tk => pdss_cons (pds_if (pdt_lt (pd_var 1) (pd_len (fx.free 12) (pd_var 0)))
    (pdss_one (pds_ret (pd_item (pd_var 0) (pd_var 1))))
    pdss_nil)
    (pdss_cons (pds_if (pdt_eqS (pd_len (fx.free 12) (pd_var 0)) pd_int)
    (pdss_one (pds_ret (pd_mul pd_int (pd_var 1))))
    pdss_nil)
    (pdss_one (pds_ret (pd_add (pd_mul (pd_intf (fx.free 2) (pd_item (pd_var 0) pd_int)) pd_int) (pd_mul pd_int (pd_var 1))))))⟩
theorem dg_law_cell_2 (fx : Fx P K mg) : DefG P w K mg base (tab K) 1 "_law_cell" 2 (fun ds => ds) f_law_cell := by
  obtain ⟨fd, F, O⟩ := ok_law_cell (P := P) (w := w) (base := base) fx
  exact ⟨_, fd, ["_law_script", "_law_k"], fx.glo 0, F.kp, conv_pos F rfl (fun _ _ _ _ _ _ us hl => match us, hl with | [_, _], _ => rfl), O⟩
theorem ok_law_digits (fx : Fx P K mg) : ∃ fd, FunD K "_law_digits" "_law_digits" (defArgs s_law_digits) (defBody s_law_digits) (defScope s_law_digits) (h_law_digits.dv K) [] ((atG "_law_digits") K) fd ∧ FnOk P w K mg base (L2.CX P w) 33 ((atG "_law_digits") K) fd ["_law_cell_here", "_law_limit", "_law_count"] (spD K (tab K) f_law_digits) := by
  obtain ⟨fd, F⟩ := fx.fun_ 1 (d := h_law_digits)
  exact ⟨fd, F, fnOk_of F sc_law_digits rfl rfl fun cdv A outer s H E hr tk => pdss_cons (pds_set 3 sc_law_digits.nd (pd_abs (fx.free 18) (pd_var 0)))
    (pdss_cons (pds_set 4 sc_law_digits.nd (pd_ge (pd_var 3) (pd_pow pd_int pd_int)))
    (pdss_cons (pds_set 5 sc_law_digits.nd (pd_lst pda_nil))
    (pdss_cons (pds_for (vs := [6]) PassesOwn.leaving rfl (pdi_rng1 (fx.free 5) (pd_var 2)) (pg_name sc_law_digits.nd rfl (by first | exact Or.inl rfl | exact Or.inr rfl) (by first | exact .inl rfl | exact .inr rfl)) (tg_name (by decide))
    (pdss_one (pds_if (pdt_of (pdw_and (pdt_tru (pd_var 4)) (pdw_and1 (pdt_gt (pd_var 3) pd_int))))
    (pdss_cons (pds_app (i := 5) (pd_mod (pd_intf (fx.free 2) (pd_var 3)) (pd_var 1)))
    (pdss_one (pds_set 3 sc_law_digits.nd (pd_div (dv_fn fx.1 (fx.bool 0) sc_law_digits hr (by decide)) (pd_var 3) (pd_var 1)))))
    (pdss_cons (pds_set 7 sc_law_digits.nd (pd_mod (pd_intf (fx.free 2) (pd_add (pd_mul (pd_add (pd_abs (fx.free 18) (pd_var 0)) pd_int) pd_int) (pd_mul (pd_var 6) pd_int))) pd_int))
    (pdss_cons (pds_set 7 sc_law_digits.nd (pd_mod (pd_intf (fx.free 2) (pd_add (pd_mul (pd_var 7) pd_int) (pd_mul pd_int (pd_var 6)))) pd_int))
    (pdss_one (pds_app (i := 5) (pd_mod (pd_intf (fx.free 2) (pd_div (dv_fn fx.1 (fx.bool 0) sc_law_digits hr (by decide)) (pd_var 7) pd_int)) (pd_var 1)))))))))
    (pdss_one (pds_retV 5)))))⟩
theorem dg_law_digits_3 (fx : Fx P K mg) : DefG P w K mg base (tab K) 33 "_law_digits" 3 (fun ds => ds) f_law_digits := by
  obtain ⟨fd, F, O⟩ := ok_law_digits (P := P) (w := w) (base := base) fx
  exact ⟨_, fd, ["_law_cell_here", "_law_limit", "_law_count"], fx.glo 1, F.kp, conv_pos F rfl (fun _ _ _ _ _ _ us hl => match us, hl with | [_, _, _], _ => rfl), O⟩
theorem ok_law_trim (fx : Fx P K mg) : ∃ fd, FunD K "_law_trim" "_law_trim" (defArgs s_law_trim) (defBody s_law_trim) (defScope s_law_trim) (h_law_trim.dv K) [] ((atG "_law_trim") K) fd ∧ FnOk P w K mg base (L2.CX P w) 1 ((atG "_law_trim") K) fd ["_law_xs"] (spD K (tab K) f_law_trim) := by
  obtain ⟨fd, F⟩ := fx.fun_ 2 (d := h_law_trim)
  exact ⟨fd, F, fnOk_of F sc_law_trim rfl rfl fun cdv A outer s H E hr tk => pdss_cons (pds_set 1 sc_law_trim.nd pd_int)
    (pdss_cons (pds_for (vs := [2]) PassesOwn.leaving rfl (pdi_rng1 (fx.free 5) (pd_len (fx.free 12) (pd_var 0))) (pg_name sc_law_trim.nd rfl (by first | exact Or.inl rfl | exact Or.inr rfl) (by first | exact .inl rfl | exact .inr rfl)) (tg_name (by decide))
    (pdss_one (pds_if (pdt_neS (pd_item (pd_var 0) (pd_var 2)) pd_int)
    (pdss_one (pds_set 1 sc_law_trim.nd (pd_add (pd_var 2) pd_int)))
    pdss_nil)))
    (pdss_one (pds_ret (pd_slice (pd_var 0) pdo_none (pdo_some (pd_var 1))))))⟩
theorem dg_law_trim_1 (fx : Fx P K mg) : DefG P w K mg base (tab K) 1 "_law_trim" 1 (fun ds => ds) f_law_trim := by
  obtain ⟨fd, F, O⟩ := ok_law_trim (P := P) (w := w) (base := base) fx
  exact ⟨_, fd, ["_law_xs"], fx.glo 20, F.kp, conv_pos F rfl (fun _ _ _ _ _ _ us hl => match us, hl with | [_], _ => rfl), O⟩
theorem ok_law_draw (fx : Fx P K mg) : ∃ fd, FunD K "_law_draw" "_law_draw" (defArgs s_law_draw) (defBody s_law_draw) (defScope s_law_draw) (h_law_draw.dv K) [] ((atG "_law_draw") K) fd ∧ FnOk P w K mg base (L2.CX P w) 34 ((atG "_law_draw") K) fd ["_law_cell_here", "_law_most"] (spD K (tab K) f_law_draw) := by
  obtain ⟨fd, F⟩ := fx.fun_ 3 (d := h_law_draw)
  exact ⟨fd, F, fnOk_of F sc_law_draw rfl rfl fun cdv A outer s H E hr tk => pdss_cons (pds_set 2 sc_law_draw.nd (pd_callG (dg_law_digits_3 fx) (hr.mono (by decide)) tk (pda_cons (pd_var 0) (pda_cons pd_int (pda_cons (pd_add (pd_var 1) pd_int) pda_nil)))))
    (pdss_cons (pds_set 3 sc_law_draw.nd (pd_mod (pd_intf (fx.free 2) (pd_item (pd_var 2) pd_int)) (pd_add (pd_var 1) pd_int)))
    (pdss_cons (pds_set 4 sc_law_draw.nd (pd_lst pda_nil))
    (pdss_cons (pds_for (vs := [5]) PassesOwn.leaving rfl (pdi_seq (pd_slice (pd_var 2) (pdo_some pd_int) (pdo_some (pd_add pd_int (pd_var 3))))) (pg_name sc_law_draw.nd rfl (by first | exact Or.inl rfl | exact Or.inr rfl) (by first | exact .inl rfl | exact .inr rfl)) (tg_name (by decide))
    (pdss_one (pds_if (pdt_of (pdw_and (pdt_eqS (pd_mod (pd_intf (fx.free 2) (pd_item (pd_var 2) pd_int)) pd_int) pd_int) (pdw_and1 (pdt_eqS (pd_mod (pd_intf (fx.free 2) (pd_div (dv_fn fx.1 (fx.bool 0) sc_law_draw hr (by decide)) (pd_var 5) pd_int)) pd_int) pd_int))))
    (pdss_one (pds_app (i := 4) pd_int))
    (pdss_one (pds_app (i := 4) (pd_sub (pd_mod (pd_intf (fx.free 2) (pd_var 5)) pd_int) pd_int))))))
    (pdss_one (pds_frz 4 (pds_ret (pd_tup (pda_cons (pd_callG (dg_law_trim_1 fx) (hr.mono (by decide)) tk (pda_cons (pd_var 4) pda_nil)) (pda_cons (pd_add (pd_mod (pd_intf (fx.free 2) (pd_div (dv_fn fx.1 (fx.bool 0) sc_law_draw hr (by decide)) (pd_item (pd_var 2) pd_int) pd_int)) pd_int) pd_int) pda_nil)))))))))⟩
theorem dg_law_draw_2 (fx : Fx P K mg) : DefG P w K mg base (tab K) 34 "_law_draw" 2 (fun ds => ds) f_law_draw := by
  obtain ⟨fd, F, O⟩ := ok_law_draw (P := P) (w := w) (base := base) fx
  exact ⟨_, fd, ["_law_cell_here", "_law_most"], fx.glo 19, F.kp, conv_pos F rfl (fun _ _ _ _ _ _ us hl => match us, hl with | [_, _], _ => rfl), O⟩
theorem ok_law_drawn (fx : Fx P K mg) : ∃ fd, FunD K "_law_drawn" "_law_drawn" (defArgs s_law_drawn) (defBody s_law_drawn) (defScope s_law_drawn) (h_law_drawn.dv K) [] ((atG "_law_drawn") K) fd ∧ FnOk P w K mg base (L2.CX P w) 35 ((atG "_law_drawn") K) fd ["_law_script", "_law_at_here", "_law_order", "_law_most"] (spD K (tab K) f_law_drawn) := by
  obtain ⟨fd, F⟩ := fx.fun_ 4 (d := h_law_drawn)
  exact ⟨fd, F, fnOk_of F sc_law_drawn rfl rfl fun cdv A outer s H E hr tk => pdss_cons (pds_setLc (own := [("_law_j", 5)]) rfl sc_law_drawn.nd rfl rfl (sw_true rfl rfl rfl (by decide +kernel)) (pdi_rng1 (fx.free 5) (pd_add (pd_var 2) pd_int)) (blkOk_by (by kernel_rfl)) (tg_name (by decide)) (fun s0 H1 C0 cl0 fp0 => pg_name sc_law_drawn.nd rfl (by first | exact Or.inl rfl | exact Or.inr rfl) (by first | exact .inl rfl | exact .inr rfl)) (fun s0 H1 C0 cl0 fp0 => pdts_nil) (fun s0 H1 C0 cl0 fp0 => pd_callG (dg_law_draw_2 fx) (hr.mono (by decide)) takes_W0 (pda_cons (pd_callG (dg_law_cell_2 fx) (hr.mono (by decide)) takes_W0 (pda_cons (pd_var 0) (pda_cons (pd_add (pd_var 1) (pd_var 5)) pda_nil))) (pda_cons (pd_var 3) pda_nil))))
    (pdss_cons (pds_if (pdt_of (pdw_and (pdt_gt (pd_len (fx.free 12) (pd_var 4)) pd_int) (pdw_and1 (pdt_eqS (pd_len (fx.free 12) (pd_item (pd_item (pd_var 4) (pd_var 2)) pd_int)) pd_int))))
    (pdss_one (pds_setIx (i := 4) (pd_tup (pda_cons (pd_lst (pda_cons pd_int pda_nil)) (pda_cons pd_int pda_nil))) (pd_var 2)))
    pdss_nil)
    (pdss_one (pds_retV 4)))⟩
theorem dg_law_drawn_4 (fx : Fx P K mg) : DefG P w K mg base (tab K) 35 "_law_drawn" 4 (fun ds => ds) f_law_drawn := by
  obtain ⟨fd, F, O⟩ := ok_law_drawn (P := P) (w := w) (base := base) fx
  exact ⟨_, fd, ["_law_script", "_law_at_here", "_law_order", "_law_most"], fx.glo 3, F.kp, conv_pos F rfl (fun _ _ _ _ _ _ us hl => match us, hl with | [_, _, _, _], _ => rfl), O⟩
theorem ok_law_cut (fx : Fx P K mg) : ∃ fd, FunD K "_law_cut" "_law_cut" (defArgs s_law_cut) (defBody s_law_cut) (defScope s_law_cut) (h_law_cut.dv K) [] ((atG "_law_cut") K) fd ∧ FnOk P w K mg base (L2.CX P w) 1 ((atG "_law_cut") K) fd ["_law_parts"] (spD K (tab K) f_law_cut) := by
  obtain ⟨fd, F⟩ := fx.fun_ 5 (d := h_law_cut)
  exact ⟨fd, F, fnOk_of F sc_law_cut rfl rfl fun cdv A outer s H E hr tk => pdss_cons (pds_set 1 sc_law_cut.nd pd_int)
    (pdss_cons (pds_for (vs := [2]) PassesOwn.leaving rfl (pdi_rng1 (fx.free 5) (pd_len (fx.free 12) (pd_var 0))) (pg_name sc_law_cut.nd rfl (by first | exact Or.inl rfl | exact Or.inr rfl) (by first | exact .inl rfl | exact .inr rfl)) (tg_name (by decide))
    (pdss_one (pds_if (pdt_gt (pd_len (fx.free 12) (pd_item (pd_item (pd_var 0) (pd_var 2)) pd_int)) pd_int)
    (pdss_one (pds_set 1 sc_law_cut.nd (pd_add (pd_var 2) pd_int)))
    pdss_nil)))
    (pdss_one (pds_ret (pd_slice (pd_var 0) pdo_none (pdo_some (pd_var 1))))))⟩
theorem dg_law_cut_1 (fx : Fx P K mg) : DefG P w K mg base (tab K) 1 "_law_cut" 1 (fun ds => ds) f_law_cut := by
  obtain ⟨fd, F, O⟩ := ok_law_cut (P := P) (w := w) (base := base) fx
  exact ⟨_, fd, ["_law_parts"], fx.glo 4, F.kp, conv_pos F rfl (fun _ _ _ _ _ _ us hl => match us, hl with | [_], _ => rfl), O⟩
theorem ok_law_pairs (fx : Fx P K mg) : ∃ fd, FunD K "_law_pairs" "_law_pairs" (defArgs s_law_pairs) (defBody s_law_pairs) (defScope s_law_pairs) (h_law_pairs.dv K) [] ((atG "_law_pairs") K) fd ∧ FnOk P w K mg base (L2.CX P w) 34 ((atG "_law_pairs") K) fd ["_law_cell_here", "_law_count"] (spD K (tab K) f_law_pairs) := by
  obtain ⟨fd, F⟩ := fx.fun_ 6 (d := h_law_pairs)
  exact ⟨fd, F, fnOk_of F sc_law_pairs rfl rfl fun cdv A outer s H E hr tk => pdss_one (pds_ret (pd_lc (own := [("_law_d", 2)]) rfl sc_law_pairs.nd (pdi_seq (pd_callG (dg_law_digits_3 fx) (hr.mono (by decide)) tk (pda_cons (pd_var 0) (pda_cons pd_int (pda_cons (pd_var 1) pda_nil))))) (blkOk_by (by kernel_rfl)) (tg_name (by decide)) (fun s0 H1 C0 cl0 fp0 => pg_name sc_law_pairs.nd rfl (by first | exact Or.inl rfl | exact Or.inr rfl) (by first | exact .inl rfl | exact .inr rfl)) (fun s0 H1 C0 cl0 fp0 => pdts_nil) (fun s0 H1 C0 cl0 fp0 => pd_tup (pda_cons (pd_sub (pd_mod (pd_intf (fx.free 2) (pd_var 2)) pd_int) pd_int) (pda_cons (pd_add (pd_mod (pd_intf (fx.free 2) (pd_div ((dv_fn fx.1 (fx.bool 0) sc_law_pairs hr (by decide)).blk _ _ _ _ _) (pd_var 2) pd_int)) pd_int) pd_int) pda_nil)))))⟩
theorem dg_law_pairs_2 (fx : Fx P K mg) : DefG P w K mg base (tab K) 34 "_law_pairs" 2 (fun ds => ds) f_law_pairs := by
  obtain ⟨fd, F, O⟩ := ok_law_pairs (P := P) (w := w) (base := base) fx
  exact ⟨_, fd, ["_law_cell_here", "_law_count"], fx.glo 6, F.kp, conv_pos F rfl (fun _ _ _ _ _ _ us hl => match us, hl with | [_, _], _ => rfl), O⟩
theorem ok_Fraction_init (fx : Fx P K mg) : ∃ fd, FunD K "__init__" "Fraction.__init__" (defArgs s_Fraction_init) (defBody s_Fraction_init) (defScope s_Fraction_init) (h_Fraction_init.dv K) [] ((atM "Fraction" "__init__") K) fd ∧ FnOk P w K mg base (L2.CX P w) 33 ((atM "Fraction" "__init__") K) fd ["self", "num", "den"] (spI K (tab K) 20 i_Fraction) := by
  obtain ⟨fd, F⟩ := fx.fun_ 7 (d := h_Fraction_init)
  exact ⟨fd, F, initOk_of F sc_Fraction_init rfl rfl rfl fun cdv A outer s H E hr tk => pdss_cons (pds_if (pdt_eqS (pd_var 2) pd_int)
    (pdss_one (pds_raise 1 rfl tk (fx.exc 23) (fx.glo 24)))
    pdss_nil)
    (pdss_cons (pds_set 3 sc_Fraction_init.nd (pd_gcd (fx.blt 2) (pd_var 1) (pd_var 2)))
    (pdss_cons (pds_if (pdt_lt (pd_var 2) pd_int)
    (pdss_one (pds_set 3 sc_Fraction_init.nd (pd_neg (pd_var 3))))
    pdss_nil)
    (pdss_cons (pds_fld (i := 0) (cd_Fraction fx) rfl (pd_div (dv_fn fx.1 (fx.bool 0) sc_Fraction_init hr (by decide)) (pd_var 1) (pd_var 3)))
    (pdss_one (pds_fld (i := 0) (cd_Fraction fx) rfl (pd_div (dv_fn fx.1 (fx.bool 0) sc_Fraction_init hr (by decide)) (pd_var 2) (pd_var 3)))))))⟩
theorem cg_Fraction_2 (fx : Fx P K mg) : ClsG P w K mg base (tab K) 33 "Fraction" 20 2 (fun ds => ds) i_Fraction := by
  obtain ⟨fd, F, O⟩ := ok_Fraction_init (P := P) (w := w) (base := base) fx
  exact ⟨_, fd, ["self", "num", "den"], fx.glo 21, (fx.mkr 22).kp, fx.mkr 22, convI_full (convI_dfl F 2 1 [] (fun Z => .nil) (List.cons_ne_nil _ _) rfl (fun _ _ _ _ _ _ _ us its h1 h2 => match us, h1, its, h2 with | [_, _, _], _, [_], _ => ⟨_, rfl, rfl⟩)), O⟩
theorem cg_Fraction_1 (fx : Fx P K mg) : ClsG P w K mg base (tab K) 33 "Fraction" 20 1 (fun ds => ds ++ [(.int 1)]) i_Fraction := by
  obtain ⟨fd, F, O⟩ := ok_Fraction_init (P := P) (w := w) (base := base) fx
  exact ⟨_, fd, ["self", "num", "den"], fx.glo 21, (fx.mkr 22).kp, fx.mkr 22, convI_dfl F 1 0 [(.int 1)] (fun Z => .cons (by simp only [Rep]; rfl) .nil) (List.cons_ne_nil _ _) rfl (fun _ _ _ _ _ _ _ us its h1 h2 => match us, h1, its, h2 with | [_, _], _, [_], _ => ⟨_, rfl, rfl⟩), O⟩
theorem ok_law_vector (fx : Fx P K mg) : ∃ fd, FunD K "_law_vector" "_law_vector" (defArgs s_law_vector) (defBody s_law_vector) (defScope s_law_vector) (h_law_vector.dv K) [] ((atG "_law_vector") K) fd ∧ FnOk P w K mg base (L2.CX P w) 35 ((atG "_law_vector") K) fd ["_law_pairs_here"] (spD K (tab K) f_law_vector) := by
  obtain ⟨fd, F⟩ := fx.fun_ 8 (d := h_law_vector)
  exact ⟨fd, F, fnOk_of F sc_law_vector rfl rfl fun cdv A outer s H E hr tk => pdss_one (pds_ret (pd_lc (own := [("_law_pair", 1)]) rfl sc_law_vector.nd (pdi_seq (pd_var 0)) (blkOk_by (by kernel_rfl)) (tg_name (by decide)) (fun s0 H1 C0 cl0 fp0 => pg_name sc_law_vector.nd rfl (by first | exact Or.inl rfl | exact Or.inr rfl) (by first | exact .inl rfl | exact .inr rfl)) (fun s0 H1 C0 cl0 fp0 => pdts_nil) (fun s0 H1 C0 cl0 fp0 => pd_callCG (cg_Fraction_2 fx) (hr.mono (by decide)) takes_W0 (pda_cons (pd_item (pd_var 1) pd_int) (pda_cons (pd_item (pd_var 1) pd_int) pda_nil)))))⟩
theorem dg_law_vector_1 (fx : Fx P K mg) : DefG P w K mg base (tab K) 35 "_law_vector" 1 (fun ds => ds) f_law_vector := by
  obtain ⟨fd, F, O⟩ := ok_law_vector (P := P) (w := w) (base := base) fx
  exact ⟨_, fd, ["_law_pairs_here"], fx.glo 7, F.kp, conv_pos F rfl (fun _ _ _ _ _ _ us hl => match us, hl with | [_], _ => rfl), O⟩
theorem ok_trimmed (fx : Fx P K mg) : ∃ fd, FunD K "trimmed" "trimmed" (defArgs s_trimmed) (defBody s_trimmed) (defScope s_trimmed) (h_trimmed.dv K) [] ((atG "trimmed") K) fd ∧ FnOk P w K mg base (L2.CX P w) 1 ((atG "trimmed") K) fd ["numbers"] (spD K (tab K) f_trimmed) := by
  obtain ⟨fd, F⟩ := fx.fun_ 9 (d := h_trimmed)
  exact ⟨fd, F, fnOk_of F sc_trimmed rfl rfl fun cdv A outer s H E hr tk => pdss_cons (pds_set 1 sc_trimmed.nd (pd_len (fx.free 12) (pd_var 0)))
    (pdss_cons (pds_while PassesOwn.leaving (pdt_of (pdw_and (pdt_gt (pd_var 1) pd_int) (pdw_and1 (pdt_eqS (pd_item (pd_var 0) (pd_sub (pd_var 1) pd_int)) pd_int))))
    (pdss_one (pds_augI ip_sub sc_trimmed.nd pd_int)))
    (pdss_one (pds_ret (pd_slice (pd_var 0) pdo_none (pdo_some (pd_var 1))))))⟩
theorem dg_trimmed_1 (fx : Fx P K mg) : DefG P w K mg base (tab K) 1 "trimmed" 1 (fun ds => ds) f_trimmed := by
  obtain ⟨fd, F, O⟩ := ok_trimmed (P := P) (w := w) (base := base) fx
  exact ⟨_, fd, ["numbers"], fx.glo 31, F.kp, conv_pos F rfl (fun _ _ _ _ _ _ us hl => match us, hl with | [_], _ => rfl), O⟩
theorem ok_content (fx : Fx P K mg) : ∃ fd, FunD K "content" "content" (defArgs s_content) (defBody s_content) (defScope s_content) (h_content.dv K) [] ((atG "content") K) fd ∧ FnOk P w K mg base (L2.CX P w) 1 ((atG "content") K) fd ["numbers"] (spD K (tab K) f_content) := by
  obtain ⟨fd, F⟩ := fx.fun_ 10 (d := h_content)
  exact ⟨fd, F, fnOk_of F sc_content rfl rfl fun cdv A outer s H E hr tk => pdss_cons (pds_set 1 sc_content.nd pd_int)
    (pdss_cons (pds_for (vs := [2]) PassesOwn.leaving rfl (pdi_seq (pd_var 0)) (pg_name sc_content.nd rfl (by first | exact Or.inl rfl | exact Or.inr rfl) (by first | exact .inl rfl | exact .inr rfl)) (tg_name (by decide))
    (pdss_one (pds_set 1 sc_content.nd (pd_gcd (fx.blt 2) (pd_var 1) (pd_var 2)))))
    (pdss_one (pds_retV 1)))⟩
theorem dg_content_1 (fx : Fx P K mg) : DefG P w K mg base (tab K) 1 "content" 1 (fun ds => ds) f_content := by
  obtain ⟨fd, F, O⟩ := ok_content (P := P) (w := w) (base := base) fx
  exact ⟨_, fd, ["numbers"], fx.glo 32, F.kp, conv_pos F rfl (fun _ _ _ _ _ _ us hl => match us, hl with | [_], _ => rfl), O⟩
theorem ok_Poly_init (fx : Fx P K mg) : ∃ fd, FunD K "__init__" "Poly.__init__" (defArgs s_Poly_init) (defBody s_Poly_init) (defScope s_Poly_init) (h_Poly_init.dv K) [] ((atM "Poly" "__init__") K) fd ∧ FnOk P w K mg base (L2.CX P w) 33 ((atM "Poly" "__init__") K) fd ["self", "coefs", "den"] (spI K (tab K) 21 i_Poly) := by
  obtain ⟨fd, F⟩ := fx.fun_ 11 (d := h_Poly_init)
  exact ⟨fd, F, initOk_of F sc_Poly_init rfl rfl rfl fun cdv A outer s H E hr tk => pdss_cons (pds_if (pdt_eqS (pd_var 2) pd_int)
    (pdss_one (pds_raise 1 rfl tk (fx.exc 23) (fx.glo 24)))
    pdss_nil)
    (pdss_cons (pds_set 3 sc_Poly_init.nd (pd_callG (dg_trimmed_1 fx) (hr.mono (by decide)) tk (pda_cons (pd_listf (fx.free 28) (pd_var 1)) pda_nil)))
    (pdss_cons (pds_set 4 sc_Poly_init.nd (pd_bor 3 (pd_gcd (fx.blt 2) (pd_callG (dg_content_1 fx) (hr.mono (by decide)) tk (pda_cons (pd_var 3) pda_nil)) (pd_var 2))))
    (pdss_cons (pds_if (pdt_lt (pd_var 2) pd_int)
    (pdss_one (pds_set 4 sc_Poly_init.nd (pd_neg (pd_var 4))))
    pdss_nil)
    (pdss_cons (pds_fld (i := 0) (cd_Poly fx) rfl (pd_bor 3 (pd_tuplef (fx.free 33) (pd_lc (own := [("number", 5)]) rfl sc_Poly_init.nd (pdi_seq (pd_var 3)) (blkOk_by (by kernel_rfl)) (tg_name (by decide)) (fun s0 H1 C0 cl0 fp0 => pg_name sc_Poly_init.nd rfl (by first | exact Or.inl rfl | exact Or.inr rfl) (by first | exact .inl rfl | exact .inr rfl)) (fun s0 H1 C0 cl0 fp0 => pdts_nil) (fun s0 H1 C0 cl0 fp0 => pd_div ((dv_fn fx.1 (fx.bool 0) sc_Poly_init hr (by decide)).blk _ _ _ _ _) (pd_var 5) (pd_var 4))))))
    (pdss_one (pds_fld (i := 0) (cd_Poly fx) rfl (pd_div (dv_fn fx.1 (fx.bool 0) sc_Poly_init hr (by decide)) (pd_var 2) (pd_var 4))))))))⟩
theorem cg_Poly_2 (fx : Fx P K mg) : ClsG P w K mg base (tab K) 33 "Poly" 21 2 (fun ds => ds) i_Poly := by
  obtain ⟨fd, F, O⟩ := ok_Poly_init (P := P) (w := w) (base := base) fx
  exact ⟨_, fd, ["self", "coefs", "den"], fx.glo 29, (fx.mkr 30).kp, fx.mkr 30, convI_full (convI_dfl F 2 1 [] (fun Z => .nil) (List.cons_ne_nil _ _) rfl (fun _ _ _ _ _ _ _ us its h1 h2 => match us, h1, its, h2 with | [_, _, _], _, [_], _ => ⟨_, rfl, rfl⟩)), O⟩
theorem cg_Poly_1 (fx : Fx P K mg) : ClsG P w K mg base (tab K) 33 "Poly" 21 1 (fun ds => ds ++ [(.int 1)]) i_Poly := by
  obtain ⟨fd, F, O⟩ := ok_Poly_init (P := P) (w := w) (base := base) fx
  exact ⟨_, fd, ["self", "coefs", "den"], fx.glo 29, (fx.mkr 30).kp, fx.mkr 30, convI_dfl F 1 0 [(.int 1)] (fun Z => .cons (by simp only [Rep]; rfl) .nil) (List.cons_ne_nil _ _) rfl (fun _ _ _ _ _ _ _ us its h1 h2 => match us, h1, its, h2 with | [_, _], _, [_], _ => ⟨_, rfl, rfl⟩), O⟩
theorem ok_law_poly (fx : Fx P K mg) : ∃ fd, FunD K "_law_poly" "_law_poly" (defArgs s_law_poly) (defBody s_law_poly) (defScope s_law_poly) (h_law_poly.dv K) [] ((atG "_law_poly") K) fd ∧ FnOk P w K mg base (L2.CX P w) 35 ((atG "_law_poly") K) fd ["_law_part"] (spD K (tab K) f_law_poly) := by
  obtain ⟨fd, F⟩ := fx.fun_ 12 (d := h_law_poly)
  exact ⟨fd, F, fnOk_of F sc_law_poly rfl rfl fun cdv A outer s H E hr tk => pdss_one (pds_ret (pd_callCG (cg_Poly_2 fx) (hr.mono (by decide)) tk (pda_cons (pd_listf (fx.free 28) (pd_item (pd_var 0) pd_int)) (pda_cons (pd_item (pd_var 0) pd_int) pda_nil))))⟩
theorem dg_law_poly_1 (fx : Fx P K mg) : DefG P w K mg base (tab K) 35 "_law_poly" 1 (fun ds => ds) f_law_poly := by
  obtain ⟨fd, F, O⟩ := ok_law_poly (P := P) (w := w) (base := base) fx
  exact ⟨_, fd, ["_law_part"], fx.glo 25, F.kp, conv_pos F rfl (fun _ _ _ _ _ _ us hl => match us, hl with | [_], _ => rfl), O⟩
theorem ok_Poly_is_zero (fx : Fx P K mg) : ∃ fd, FunD K "is_zero" "Poly.is_zero" (defArgs s_Poly_is_zero) (defBody s_Poly_is_zero) (defScope s_Poly_is_zero) (h_Poly_is_zero.dv K) [] ((behind "property" "Poly" "is_zero") K) fd ∧ FnOk P w K mg base (L2.CX P w) 1 ((behind "property" "Poly" "is_zero") K) fd ["self"] (spD K (tab K) f_Poly_is_zero) := by
  obtain ⟨fd, F⟩ := fx.fun_ 13 (d := h_Poly_is_zero)
  exact ⟨fd, F, fnOk_of F sc_Poly_is_zero rfl rfl fun cdv A outer s H E hr tk => pdss_one (pds_ret (pd_eqS (pd_len (fx.free 12) (pd_fld (tbl [(21, 0)]) (tbl_all (all_cons (⟨(cd_Poly fx), rfl⟩) all_nil)) (pd_var 0))) pd_int))⟩
theorem po_Poly_is_zero (fx : Fx P K mg) : PropOk P w K mg base (tab K) 1 21 "is_zero" f_Poly_is_zero := by
  obtain ⟨fd, F, O⟩ := ok_Poly_is_zero (P := P) (w := w) (base := base) fx
  exact ⟨cd_Poly fx, _, _, fd, ["self"], propB_ok (fx.bool 3), FunD.bindsN F (fun _ _ _ _ _ _ us hl => match us, hl with | [_], _ => rfl), O⟩
theorem ok_Operator_init (fx : Fx P K mg) : ∃ fd, FunD K "__init__" "Operator.__init__" (defArgs s_Operator_init) (defBody s_Operator_init) (defScope s_Operator_init) (h_Operator_init.dv K) [] ((atM "Operator" "__init__") K) fd ∧ FnOk P w K mg base (L2.CX P w) 3 ((atM "Operator" "__init__") K) fd ["self", "coefs"] (spI K (tab K) 26 i_Operator) := by
  obtain ⟨fd, F⟩ := fx.fun_ 14 (d := h_Operator_init)
  exact ⟨fd, F, initOk_of F sc_Operator_init rfl rfl rfl fun cdv A outer s H E hr tk => pdss_cons (pds_set 2 sc_Operator_init.nd (pd_listf (fx.free 28) (pd_var 1)))
    (pdss_cons (pds_while PassesOwn.leaving (pdt_of (pdw_and (pdt_gt (pd_len (fx.free 12) (pd_var 2)) pd_int) (pdw_and1 (pdt_tru (pd_att (k := 1) (tbl []) (tbl [(21, f_Poly_is_zero)]) (tbl_all (all_nil)) (tbl_all (all_cons ((po_Poly_is_zero fx).mono (by decide)) all_nil)) (hr.mono (by decide)) (pd_item (pd_var 2) (pd_neg pd_int)))))))
    (pdss_one (pds_pop (i := 2))))
    (pdss_one (pds_fld (i := 0) (cd_Operator fx) rfl (pd_tuplef (fx.free 33) (pd_var 2)))))⟩
theorem cg_Operator_1 (fx : Fx P K mg) : ClsG P w K mg base (tab K) 3 "Operator" 26 1 (fun ds => ds) i_Operator := by
  obtain ⟨fd, F, O⟩ := ok_Operator_init (P := P) (w := w) (base := base) fx
  exact ⟨_, fd, ["self", "coefs"], fx.glo 26, (fx.mkr 27).kp, fx.mkr 27, convI_pos F rfl (fun _ _ _ _ _ _ us hl => match us, hl with | [_, _], _ => rfl), O⟩
theorem ok_law_operator (fx : Fx P K mg) : ∃ fd, FunD K "_law_operator" "_law_operator" (defArgs s_law_operator) (defBody s_law_operator) (defScope s_law_operator) (h_law_operator.dv K) [] ((atG "_law_operator") K) fd ∧ FnOk P w K mg base (L2.CX P w) 36 ((atG "_law_operator") K) fd ["_law_parts"] (spD K (tab K) f_law_operator) := by
  obtain ⟨fd, F⟩ := fx.fun_ 15 (d := h_law_operator)
  exact ⟨fd, F, fnOk_of F sc_law_operator rfl rfl fun cdv A outer s H E hr tk => pdss_one (pds_ret (pd_callCG (cg_Operator_1 fx) (hr.mono (by decide)) tk (pda_cons (pd_lc (own := [("_law_part", 1)]) rfl sc_law_operator.nd (pdi_seq (pd_var 0)) (blkOk_by (by kernel_rfl)) (tg_name (by decide)) (fun s0 H1 C0 cl0 fp0 => pg_name sc_law_operator.nd rfl (by first | exact Or.inl rfl | exact Or.inr rfl) (by first | exact .inl rfl | exact .inr rfl)) (fun s0 H1 C0 cl0 fp0 => pdts_nil) (fun s0 H1 C0 cl0 fp0 => pd_callG (dg_law_poly_1 fx) (hr.mono (by decide)) takes_W0 (pda_cons (pd_var 1) pda_nil))) pda_nil)))⟩
theorem dg_law_operator_1 (fx : Fx P K mg) : DefG P w K mg base (tab K) 36 "_law_operator" 1 (fun ds => ds) f_law_operator := by
  obtain ⟨fd, F, O⟩ := ok_law_operator (P := P) (w := w) (base := base) fx
  exact ⟨_, fd, ["_law_parts"], fx.glo 8, F.kp, conv_pos F rfl (fun _ _ _ _ _ _ us hl => match us, hl with | [_], _ => rfl), O⟩
theorem ok_law_at (fx : Fx P K mg) : ∃ fd, FunD K "_law_at" "_law_at" (defArgs s_law_at) (defBody s_law_at) (defScope s_law_at) (h_law_at.dv K) [] ((atG "_law_at") K) fd ∧ FnOk P w K mg base (L2.CX P w) 1 ((atG "_law_at") K) fd ["_law_xs", "_law_k"] (spD K (tab K) f_law_at) := by
  obtain ⟨fd, F⟩ := fx.fun_ 16 (d := h_law_at)
  exact ⟨fd, F, fnOk_of F sc_law_at rfl rfl fun cdv A outer s H E hr tk => pdss_cons (pds_set 2 sc_law_at.nd pd_int)
    (pdss_cons (pds_for (vs := [3]) PassesOwn.leaving rfl (pdi_rev (fx.free 35) (pd_var 0)) (pg_name sc_law_at.nd rfl (by first | exact Or.inl rfl | exact Or.inr rfl) (by first | exact .inl rfl | exact .inr rfl)) (tg_name (by decide))
    (pdss_one (pds_set 2 sc_law_at.nd (pd_add (pd_mul (pd_var 2) (pd_var 1)) (pd_var 3)))))
    (pdss_one (pds_retV 2)))⟩
theorem dg_law_at_2 (fx : Fx P K mg) : DefG P w K mg base (tab K) 1 "_law_at" 2 (fun ds => ds) f_law_at := by
  obtain ⟨fd, F, O⟩ := ok_law_at (P := P) (w := w) (base := base) fx
  exact ⟨_, fd, ["_law_xs", "_law_k"], fx.glo 34, F.kp, conv_pos F rfl (fun _ _ _ _ _ _ us hl => match us, hl with | [_, _], _ => rfl), O⟩
theorem ok_law_applied (fx : Fx P K mg) : ∃ fd, FunD K "_law_applied" "_law_applied" (defArgs s_law_applied) (defBody s_law_applied) (defScope s_law_applied) (h_law_applied.dv K) [] ((atG "_law_applied") K) fd ∧ FnOk P w K mg base (L2.CX P w) 2 ((atG "_law_applied") K) fd ["_law_parts", "_law_values", "_law_n"] (spD K (tab K) f_law_applied) := by
  obtain ⟨fd, F⟩ := fx.fun_ 17 (d := h_law_applied)
  exact ⟨fd, F, fnOk_of F sc_law_applied rfl rfl fun cdv A outer s H E hr tk => pdss_cons (pds_set 3 sc_law_applied.nd pd_int)
    (pdss_cons (pds_set 4 sc_law_applied.nd pd_int)
    (pdss_cons (pds_for (vs := [5]) PassesOwn.leaving rfl (pdi_rng1 (fx.free 5) (pd_len (fx.free 12) (pd_var 0))) (pg_name sc_law_applied.nd rfl (by first | exact Or.inl rfl | exact Or.inr rfl) (by first | exact .inl rfl | exact .inr rfl)) (tg_name (by decide))
    (pdss_cons (pds_set 6 sc_law_applied.nd (pd_mul (pd_callG (dg_law_at_2 fx) (hr.mono (by decide)) tk (pda_cons (pd_item (pd_item (pd_var 0) (pd_var 5)) pd_int) (pda_cons (pd_var 2) pda_nil))) (pd_item (pd_item (pd_var 1) (pd_add (pd_var 2) (pd_var 5))) pd_int)))
    (pdss_cons (pds_set 7 sc_law_applied.nd (pd_mul (pd_item (pd_item (pd_var 0) (pd_var 5)) pd_int) (pd_item (pd_item (pd_var 1) (pd_add (pd_var 2) (pd_var 5))) pd_int)))
    (pdss_cons (pds_set 3 sc_law_applied.nd (pd_add (pd_mul (pd_var 3) (pd_var 7)) (pd_mul (pd_var 6) (pd_var 4))))
    (pdss_one (pds_set 4 sc_law_applied.nd (pd_mul (pd_var 4) (pd_var 7))))))))
    (pdss_one (pds_ret (pd_tup (pda_cons (pd_var 3) (pda_cons (pd_var 4) pda_nil)))))))⟩
theorem dg_law_applied_3 (fx : Fx P K mg) : DefG P w K mg base (tab K) 2 "_law_applied" 3 (fun ds => ds) f_law_applied := by
  obtain ⟨fd, F, O⟩ := ok_law_applied (P := P) (w := w) (base := base) fx
  exact ⟨_, fd, ["_law_parts", "_law_values", "_law_n"], fx.glo 9, F.kp, conv_pos F rfl (fun _ _ _ _ _ _ us hl => match us, hl with | [_, _, _], _ => rfl), O⟩
theorem ok_Poly_at (fx : Fx P K mg) : ∃ fd, FunD K "at" "Poly.at" (defArgs s_Poly_at) (defBody s_Poly_at) (defScope s_Poly_at) (h_Poly_at.dv K) [] ((atM "Poly" "at") K) fd ∧ FnOk P w K mg base (L2.CX P w) 35 ((atM "Poly" "at") K) fd ["self", "k"] (spD K (tab K) f_Poly_at) := by
  obtain ⟨fd, F⟩ := fx.fun_ 18 (d := h_Poly_at)
  exact ⟨fd, F, fnOk_of F sc_Poly_at rfl rfl fun cdv A outer s H E hr tk => pdss_cons (pds_set 2 sc_Poly_at.nd pd_int)
    (pdss_cons (pds_for (vs := [3]) PassesOwn.leaving rfl (pdi_rev (fx.free 35) (pd_fld (tbl [(21, 0)]) (tbl_all (all_cons (⟨(cd_Poly fx), rfl⟩) all_nil)) (pd_var 0))) (pg_name sc_Poly_at.nd rfl (by first | exact Or.inl rfl | exact Or.inr rfl) (by first | exact .inl rfl | exact .inr rfl)) (tg_name (by decide))
    (pdss_one (pds_set 2 sc_Poly_at.nd (pd_add (pd_mul (pd_var 2) (pd_var 1)) (pd_var 3)))))
    (pdss_one (pds_ret (pd_callCG (cg_Fraction_2 fx) (hr.mono (by decide)) tk (pda_cons (pd_var 2) (pda_cons (pd_fld (tbl [(21, 1)]) (tbl_all (all_cons (⟨(cd_Poly fx), rfl⟩) all_nil)) (pd_var 0)) pda_nil))))))⟩
theorem mo_Poly_at_2 (fx : Fx P K mg) : MethOk P w K mg base (tab K) 35 21 "at" 2 (fun ds => ds) f_Poly_at := by
  obtain ⟨fd, F, O⟩ := ok_Poly_at (P := P) (w := w) (base := base) fx
  exact ⟨cd_Poly fx, (by show ("at" : Str) ∉ fls 21; decide), _, fd, ["self", "k"], fx.meth 37, conv_pos F rfl (fun _ _ _ _ _ _ us hl => match us, hl with | [_, _], _ => rfl), O⟩
theorem ok_Fraction_mul (fx : Fx P K mg) : ∃ fd, FunD K "__mul__" "Fraction.__mul__" (defArgs s_Fraction_mul) (defBody s_Fraction_mul) (defScope s_Fraction_mul) (h_Fraction_mul.dv K) [] ((atM "Fraction" "__mul__") K) fd ∧ FnOk P w K mg base (L2.CX P w) 35 ((atM "Fraction" "__mul__") K) fd ["self", "other"] (spD K (tab K) f_Fraction_mul) := by
  obtain ⟨fd, F⟩ := fx.fun_ 19 (d := h_Fraction_mul)
  exact ⟨fd, F, fnOk_of F sc_Fraction_mul rfl rfl fun cdv A outer s H E hr tk => pdss_one (pds_ret (pd_callCG (cg_Fraction_2 fx) (hr.mono (by decide)) tk (pda_cons (pd_mul (pd_fld (tbl [(20, 0)]) (tbl_all (all_cons (⟨(cd_Fraction fx), rfl⟩) all_nil)) (pd_var 0)) (pd_fld (tbl [(20, 0)]) (tbl_all (all_cons (⟨(cd_Fraction fx), rfl⟩) all_nil)) (pd_var 1))) (pda_cons (pd_mul (pd_fld (tbl [(20, 1)]) (tbl_all (all_cons (⟨(cd_Fraction fx), rfl⟩) all_nil)) (pd_var 0)) (pd_fld (tbl [(20, 1)]) (tbl_all (all_cons (⟨(cd_Fraction fx), rfl⟩) all_nil)) (pd_var 1))) pda_nil))))⟩
theorem mo_Fraction_mul_2 (fx : Fx P K mg) : MethOk P w K mg base (tab K) 35 20 "__mul__" 2 (fun ds => ds) f_Fraction_mul := by
  obtain ⟨fd, F, O⟩ := ok_Fraction_mul (P := P) (w := w) (base := base) fx
  exact ⟨cd_Fraction fx, (by show ("__mul__" : Str) ∉ fls 20; decide), _, fd, ["self", "other"], fx.meth 38, conv_pos F rfl (fun _ _ _ _ _ _ us hl => match us, hl with | [_, _], _ => rfl), O⟩
theorem ok_Fraction_add (fx : Fx P K mg) : ∃ fd, FunD K "__add__" "Fraction.__add__" (defArgs s_Fraction_add) (defBody s_Fraction_add) (defScope s_Fraction_add) (h_Fraction_add.dv K) [] ((atM "Fraction" "__add__") K) fd ∧ FnOk P w K mg base (L2.CX P w) 35 ((atM "Fraction" "__add__") K) fd ["self", "other"] (spD K (tab K) f_Fraction_add) := by
  obtain ⟨fd, F⟩ := fx.fun_ 20 (d := h_Fraction_add)
  exact ⟨fd, F, fnOk_of F sc_Fraction_add rfl rfl fun cdv A outer s H E hr tk => pdss_one (pds_ret (pd_callCG (cg_Fraction_2 fx) (hr.mono (by decide)) tk (pda_cons (pd_add (pd_mul (pd_fld (tbl [(20, 0)]) (tbl_all (all_cons (⟨(cd_Fraction fx), rfl⟩) all_nil)) (pd_var 0)) (pd_fld (tbl [(20, 1)]) (tbl_all (all_cons (⟨(cd_Fraction fx), rfl⟩) all_nil)) (pd_var 1))) (pd_mul (pd_fld (tbl [(20, 0)]) (tbl_all (all_cons (⟨(cd_Fraction fx), rfl⟩) all_nil)) (pd_var 1)) (pd_fld (tbl [(20, 1)]) (tbl_all (all_cons (⟨(cd_Fraction fx), rfl⟩) all_nil)) (pd_var 0)))) (pda_cons (pd_mul (pd_fld (tbl [(20, 1)]) (tbl_all (all_cons (⟨(cd_Fraction fx), rfl⟩) all_nil)) (pd_var 0)) (pd_fld (tbl [(20, 1)]) (tbl_all (all_cons (⟨(cd_Fraction fx), rfl⟩) all_nil)) (pd_var 1))) pda_nil))))⟩
theorem mo_Fraction_add_2 (fx : Fx P K mg) : MethOk P w K mg base (tab K) 35 20 "__add__" 2 (fun ds => ds) f_Fraction_add := by
  obtain ⟨fd, F, O⟩ := ok_Fraction_add (P := P) (w := w) (base := base) fx
  exact ⟨cd_Fraction fx, (by show ("__add__" : Str) ∉ fls 20; decide), _, fd, ["self", "other"], fx.meth 39, conv_pos F rfl (fun _ _ _ _ _ _ us hl => match us, hl with | [_, _], _ => rfl), O⟩
theorem ok_Operator_apply_at (fx : Fx P K mg) : ∃ fd, FunD K "apply_at" "Operator.apply_at" (defArgs s_Operator_apply_at) (defBody s_Operator_apply_at) (defScope s_Operator_apply_at) (h_Operator_apply_at.dv K) [] ((atM "Operator" "apply_at") K) fd ∧ FnOk P w K mg base (L2.CX P w) 36 ((atM "Operator" "apply_at") K) fd ["self", "values", "n"] (spD K (tab K) f_Operator_apply_at) := by
  obtain ⟨fd, F⟩ := fx.fun_ 21 (d := h_Operator_apply_at)
  exact ⟨fd, F, fnOk_of F sc_Operator_apply_at rfl rfl fun cdv A outer s H E hr tk => pdss_cons (pds_set 3 sc_Operator_apply_at.nd (pd_callCG (cg_Fraction_1 fx) (hr.mono (by decide)) tk (pda_cons pd_int pda_nil)))
    (pdss_cons (pds_for (vs := [4, 5]) PassesOwn.leaving rfl (pdi_en (fx.free 36) (pd_fld (tbl [(26, 0)]) (tbl_all (all_cons (⟨(cd_Operator fx), rfl⟩) all_nil)) (pd_var 0))) (pg_tup rfl (pgs_name sc_Operator_apply_at.nd (pgs_name sc_Operator_apply_at.nd pgs_none)) rfl rfl) (tg_tup (is := [4, 5]) rfl (by decide))
    (pdss_one (pds_set 3 sc_Operator_apply_at.nd (pd_op (opr_or op_add (op_own2 (k := 35) rfl (meths_cons ((mo_Fraction_add_2 fx).mono (by decide)) meths_nil) (hr.mono (by decide)) (tbl_all (all_cons (fx.bool 4) all_nil)))) (o2_own o2_I0) (pd_var 3) (pd_op (opr_or op_mulD (op_own2 (k := 35) rfl (meths_cons ((mo_Fraction_mul_2 fx).mono (by decide)) meths_nil) (hr.mono (by decide)) (tbl_all (all_cons (fx.bool 4) all_nil)))) (o2_own (o2_I fun _ _ h => h)) (pd_meth (k := 35) (meths_cons ((mo_Poly_at_2 fx).mono (by decide)) meths_nil) (hr.mono (by decide)) tk (pd_var 5) (pda_cons (pd_var 2) pda_nil)) (pd_item (pd_var 1) (pd_add (pd_var 2) (pd_var 4))))))))
    (pdss_one (pds_retV 3)))⟩
theorem mo_Operator_apply_at_3 (fx : Fx P K mg) : MethOk P w K mg base (tab K) 36 26 "apply_at" 3 (fun ds => ds) f_Operator_apply_at := by
  obtain ⟨fd, F, O⟩ := ok_Operator_apply_at (P := P) (w := w) (base := base) fx
  exact ⟨cd_Operator fx, (by show ("apply_at" : Str) ∉ fls 26; decide), _, fd, ["self", "values", "n"], fx.meth 10, conv_pos F rfl (fun _ _ _ _ _ _ us hl => match us, hl with | [_, _, _], _ => rfl), O⟩
theorem ok_law_is_whole (fx : Fx P K mg) : ∃ fd, FunD K "_law_is_whole" "_law_is_whole" (defArgs s_law_is_whole) (defBody s_law_is_whole) (defScope s_law_is_whole) (h_law_is_whole.dv K) [] ((atG "_law_is_whole") K) fd ∧ FnOk P w K mg base (L2.CX P w) 1 ((atG "_law_is_whole") K) fd ["_law_x"] (spD K (tab K) f_law_is_whole) := by
  obtain ⟨fd, F⟩ := fx.fun_ 22 (d := h_law_is_whole)
  exact ⟨fd, F, fnOk_of F sc_law_is_whole rfl rfl fun cdv A outer s H E hr tk => pdss_one (pds_ret (pd_and' (pd_isT "int" [] (all_nil) (fx.free 41) (fx.free 2) (pd_var 0) PyProof.Rows.boot_int) (pd_one (pd_not (pd_isT "bool" [] (all_nil) (fx.free 41) (fx.free 42) (pd_var 0) PyProof.Rows.boot_bool)))))⟩
theorem dg_law_is_whole_1 (fx : Fx P K mg) : DefG P w K mg base (tab K) 1 "_law_is_whole" 1 (fun ds => ds) f_law_is_whole := by
  obtain ⟨fd, F, O⟩ := ok_law_is_whole (P := P) (w := w) (base := base) fx
  exact ⟨_, fd, ["_law_x"], fx.glo 40, F.kp, conv_pos F rfl (fun _ _ _ _ _ _ us hl => match us, hl with | [_], _ => rfl), O⟩
theorem ok_law_is (fx : Fx P K mg) : ∃ fd, FunD K "_law_is" "_law_is" (defArgs s_law_is) (defBody s_law_is) (defScope s_law_is) (h_law_is.dv K) [] ((atG "_law_is") K) fd ∧ FnOk P w K mg base (L2.CX P w) 2 ((atG "_law_is") K) fd ["_law_x", "_law_pair"] (spD K (tab K) f_law_is) := by
  obtain ⟨fd, F⟩ := fx.fun_ 23 (d := h_law_is)
  exact ⟨fd, F, fnOk_of F sc_law_is rfl rfl fun cdv A outer s H E hr tk => pdss_cons (pds_if (pdt_of (pdw_or (pdt_not (pdt_tru (pd_isC 20 [] [(20, true)] (all_nil) (all_cons (⟨of_decide_eq_true (fx.bool 5), (isi_Fraction fx)⟩) all_nil) (fx.free 41) (fx.glo 21) (pd_var 0)))) (pdw_or (pdt_not (pdt_tru (pd_callG (dg_law_is_whole_1 fx) (hr.mono (by decide)) tk (pda_cons (pd_fld (tbl [(20, 0)]) (tbl_all (all_cons (⟨(cd_Fraction fx), rfl⟩) all_nil)) (pd_var 0)) pda_nil)))) (pdw_or (pdt_not (pdt_tru (pd_callG (dg_law_is_whole_1 fx) (hr.mono (by decide)) tk (pda_cons (pd_fld (tbl [(20, 1)]) (tbl_all (all_cons (⟨(cd_Fraction fx), rfl⟩) all_nil)) (pd_var 0)) pda_nil)))) (pdw_or1 (pdt_lt (pd_fld (tbl [(20, 1)]) (tbl_all (all_cons (⟨(cd_Fraction fx), rfl⟩) all_nil)) (pd_var 0)) pd_int))))))
    (pdss_one (pds_ret pd_bl))
    pdss_nil)
    (pdss_one (pds_ret (pd_eqS (pd_mul (pd_fld (tbl [(20, 0)]) (tbl_all (all_cons (⟨(cd_Fraction fx), rfl⟩) all_nil)) (pd_var 0)) (pd_item (pd_var 1) pd_int)) (pd_mul (pd_item (pd_var 1) pd_int) (pd_fld (tbl [(20, 1)]) (tbl_all (all_cons (⟨(cd_Fraction fx), rfl⟩) all_nil)) (pd_var 0))))))⟩
theorem dg_law_is_2 (fx : Fx P K mg) : DefG P w K mg base (tab K) 2 "_law_is" 2 (fun ds => ds) f_law_is := by
  obtain ⟨fd, F, O⟩ := ok_law_is (P := P) (w := w) (base := base) fx
  exact ⟨_, fd, ["_law_x", "_law_pair"], fx.glo 11, F.kp, conv_pos F rfl (fun _ _ _ _ _ _ us hl => match us, hl with | [_, _], _ => rfl), O⟩
theorem ok_Poly_shifted (fx : Fx P K mg) : ∃ fd, FunD K "shifted" "Poly.shifted" (defArgs s_Poly_shifted) (defBody s_Poly_shifted) (defScope s_Poly_shifted) (h_Poly_shifted.dv K) [] ((atM "Poly" "shifted") K) fd ∧ FnOk P w K mg base (L2.CX P w) 35 ((atM "Poly" "shifted") K) fd ["self", "step"] (spD K (tab K) f_Poly_shifted) := by
  obtain ⟨fd, F⟩ := fx.fun_ 24 (d := h_Poly_shifted)
  exact ⟨fd, F, fnOk_of F sc_Poly_shifted rfl rfl fun cdv A outer s H E hr tk => pdss_cons (pds_set 2 sc_Poly_shifted.nd (pd_listf (fx.free 28) (pd_fld (tbl [(21, 0)]) (tbl_all (all_cons (⟨(cd_Poly fx), rfl⟩) all_nil)) (pd_var 0))))
    (pdss_cons (pds_for (vs := [3]) PassesOwn.leaving rfl (pdi_rng1 (fx.free 5) (pd_sub (pd_len (fx.free 12) (pd_var 2)) pd_int)) (pg_name sc_Poly_shifted.nd rfl (by first | exact Or.inl rfl | exact Or.inr rfl) (by first | exact .inl rfl | exact .inr rfl)) (tg_name (by decide))
    (pdss_one (pds_for (vs := [4]) PassesOwn.leaving rfl (pdi_rngD (fx.free 5) (pd_sub (pd_len (fx.free 12) (pd_var 2)) pd_int) (pd_sub (pd_var 3) pd_int)) (pg_name sc_Poly_shifted.nd rfl (by first | exact Or.inl rfl | exact Or.inr rfl) (by first | exact .inl rfl | exact .inr rfl)) (tg_name (by decide))
    (pdss_one (pds_setIx (i := 2) (pd_add (pd_item (pd_var 2) (pd_var 4)) (pd_mul (pd_var 1) (pd_item (pd_var 2) (pd_add (pd_var 4) pd_int)))) (pd_var 4))))))
    (pdss_one (pds_ret (pd_bor 2 (pd_callCG (cg_Poly_2 fx) (hr.mono (by decide)) tk (pda_cons (pd_var 2) (pda_cons (pd_fld (tbl [(21, 1)]) (tbl_all (all_cons (⟨(cd_Poly fx), rfl⟩) all_nil)) (pd_var 0)) pda_nil)))))))⟩
theorem mo_Poly_shifted_2 (fx : Fx P K mg) : MethOk P w K mg base (tab K) 35 21 "shifted" 2 (fun ds => ds) f_Poly_shifted := by
  obtain ⟨fd, F, O⟩ := ok_Poly_shifted (P := P) (w := w) (base := base) fx
  exact ⟨cd_Poly fx, (by show ("shifted" : Str) ∉ fls 21; decide), _, fd, ["self", "step"], fx.meth 43, conv_pos F rfl (fun _ _ _ _ _ _ us hl => match us, hl with | [_, _], _ => rfl), O⟩
theorem ok_Poly_mul (fx : Fx P K mg) : ∃ fd, FunD K "__mul__" "Poly.__mul__" (defArgs s_Poly_mul) (defBody s_Poly_mul) (defScope s_Poly_mul) (h_Poly_mul.dv K) [] ((atM "Poly" "__mul__") K) fd ∧ FnOk P w K mg base (L2.CX P w) 35 ((atM "Poly" "__mul__") K) fd ["self", "other"] (spD K (tab K) f_Poly_mul) := by
  obtain ⟨fd, F⟩ := fx.fun_ 25 (d := h_Poly_mul)
  exact ⟨fd, F, fnOk_of F sc_Poly_mul rfl rfl fun cdv A outer s H E hr tk => pdss_cons (pds_setLc (own := [("_", 3)]) rfl sc_Poly_mul.nd rfl rfl (sw_true rfl rfl rfl (by decide +kernel)) (pdi_rng1 (fx.free 5) (pd_add (pd_len (fx.free 12) (pd_fld (tbl [(21, 0)]) (tbl_all (all_cons (⟨(cd_Poly fx), rfl⟩) all_nil)) (pd_var 0))) (pd_len (fx.free 12) (pd_fld (tbl [(21, 0)]) (tbl_all (all_cons (⟨(cd_Poly fx), rfl⟩) all_nil)) (pd_var 1))))) (blkOk_by (by kernel_rfl)) (tg_name (by decide)) (fun s0 H1 C0 cl0 fp0 => pg_name sc_Poly_mul.nd rfl (by first | exact Or.inl rfl | exact Or.inr rfl) (by first | exact .inl rfl | exact .inr rfl)) (fun s0 H1 C0 cl0 fp0 => pdts_nil) (fun s0 H1 C0 cl0 fp0 => pd_int))
    (pdss_cons (pds_for (vs := [4, 5]) PassesOwn.leaving rfl (pdi_en (fx.free 36) (pd_fld (tbl [(21, 0)]) (tbl_all (all_cons (⟨(cd_Poly fx), rfl⟩) all_nil)) (pd_var 0))) (pg_tup rfl (pgs_name sc_Poly_mul.nd (pgs_name sc_Poly_mul.nd pgs_none)) rfl rfl) (tg_tup (is := [4, 5]) rfl (by decide))
    (pdss_one (pds_for (vs := [6, 7]) PassesOwn.leaving rfl (pdi_en (fx.free 36) (pd_fld (tbl [(21, 0)]) (tbl_all (all_cons (⟨(cd_Poly fx), rfl⟩) all_nil)) (pd_var 1))) (pg_tup rfl (pgs_name sc_Poly_mul.nd (pgs_name sc_Poly_mul.nd pgs_none)) rfl rfl) (tg_tup (is := [6, 7]) rfl (by decide))
    (pdss_one (pds_setIx (i := 2) (pd_add (pd_item (pd_var 2) (pd_add (pd_var 4) (pd_var 6))) (pd_mul (pd_var 5) (pd_var 7))) (pd_add (pd_var 4) (pd_var 6)))))))
    (pdss_one (pds_ret (pd_bor 2 (pd_callCG (cg_Poly_2 fx) (hr.mono (by decide)) tk (pda_cons (pd_var 2) (pda_cons (pd_mul (pd_fld (tbl [(21, 1)]) (tbl_all (all_cons (⟨(cd_Poly fx), rfl⟩) all_nil)) (pd_var 0)) (pd_fld (tbl [(21, 1)]) (tbl_all (all_cons (⟨(cd_Poly fx), rfl⟩) all_nil)) (pd_var 1))) pda_nil)))))))⟩
theorem mo_Poly_mul_2 (fx : Fx P K mg) : MethOk P w K mg base (tab K) 35 21 "__mul__" 2 (fun ds => ds) f_Poly_mul := by
  obtain ⟨fd, F, O⟩ := ok_Poly_mul (P := P) (w := w) (base := base) fx
  exact ⟨cd_Poly fx, (by show ("__mul__" : Str) ∉ fls 21; decide), _, fd, ["self", "other"], fx.meth 44, conv_pos F rfl (fun _ _ _ _ _ _ us hl => match us, hl with | [_, _], _ => rfl), O⟩
theorem ok_Poly_add (fx : Fx P K mg) : ∃ fd, FunD K "__add__" "Poly.__add__" (defArgs s_Poly_add) (defBody s_Poly_add) (defScope s_Poly_add) (h_Poly_add.dv K) [] ((atM "Poly" "__add__") K) fd ∧ FnOk P w K mg base (L2.CX P w) 35 ((atM "Poly" "__add__") K) fd ["self", "other"] (spD K (tab K) f_Poly_add) := by
  obtain ⟨fd, F⟩ := fx.fun_ 26 (d := h_Poly_add)
  exact ⟨fd, F, fnOk_of F sc_Poly_add rfl rfl fun cdv A outer s H E hr tk => pdss_cons (pds_set 2 sc_Poly_add.nd (pd_max rfl (fx.free 46) (pd_len (fx.free 12) (pd_fld (tbl [(21, 0)]) (tbl_all (all_cons (⟨(cd_Poly fx), rfl⟩) all_nil)) (pd_var 0))) (pd_len (fx.free 12) (pd_fld (tbl [(21, 0)]) (tbl_all (all_cons (⟨(cd_Poly fx), rfl⟩) all_nil)) (pd_var 1)))))
    (pdss_cons (pds_set 3 sc_Poly_add.nd (pd_cat (pd_listf (fx.free 28) (pd_fld (tbl [(21, 0)]) (tbl_all (all_cons (⟨(cd_Poly fx), rfl⟩) all_nil)) (pd_var 0))) (pd_rep (pd_lst (pda_cons pd_int pda_nil)) (pd_sub (pd_var 2) (pd_len (fx.free 12) (pd_fld (tbl [(21, 0)]) (tbl_all (all_cons (⟨(cd_Poly fx), rfl⟩) all_nil)) (pd_var 0)))))))
    (pdss_cons (pds_set 4 sc_Poly_add.nd (pd_cat (pd_listf (fx.free 28) (pd_fld (tbl [(21, 0)]) (tbl_all (all_cons (⟨(cd_Poly fx), rfl⟩) all_nil)) (pd_var 1))) (pd_rep (pd_lst (pda_cons pd_int pda_nil)) (pd_sub (pd_var 2) (pd_len (fx.free 12) (pd_fld (tbl [(21, 0)]) (tbl_all (all_cons (⟨(cd_Poly fx), rfl⟩) all_nil)) (pd_var 1)))))))
    (pdss_cons (pds_frz 4 (pds_frz 3 (pds_setLc (own := [("a", 6), ("b", 7)]) rfl sc_Poly_add.nd rfl rfl (sw_true rfl rfl rfl (by decide +kernel)) (pdi_zip (fx.free 47) (pd_var 3) (pd_var 4)) (blkOk_by (by kernel_rfl)) (tg_tup (is := [6, 7]) rfl (by decide)) (fun s0 H1 C0 cl0 fp0 => pg_tup rfl (pgs_name sc_Poly_add.nd (pgs_name sc_Poly_add.nd pgs_none)) rfl rfl) (fun s0 H1 C0 cl0 fp0 => pdts_nil) (fun s0 H1 C0 cl0 fp0 => pd_add (pd_mul (pd_var 6) (pd_fld (tbl [(21, 1)]) (tbl_all (all_cons (⟨(cd_Poly fx), rfl⟩) all_nil)) (pd_var 1))) (pd_mul (pd_var 7) (pd_fld (tbl [(21, 1)]) (tbl_all (all_cons (⟨(cd_Poly fx), rfl⟩) all_nil)) (pd_var 0)))))))
    (pdss_one (pds_ret (pd_bor 5 (pd_callCG (cg_Poly_2 fx) (hr.mono (by decide)) tk (pda_cons (pd_var 5) (pda_cons (pd_mul (pd_fld (tbl [(21, 1)]) (tbl_all (all_cons (⟨(cd_Poly fx), rfl⟩) all_nil)) (pd_var 0)) (pd_fld (tbl [(21, 1)]) (tbl_all (all_cons (⟨(cd_Poly fx), rfl⟩) all_nil)) (pd_var 1))) pda_nil)))))))))⟩
theorem mo_Poly_add_2 (fx : Fx P K mg) : MethOk P w K mg base (tab K) 35 21 "__add__" 2 (fun ds => ds) f_Poly_add := by
  obtain ⟨fd, F, O⟩ := ok_Poly_add (P := P) (w := w) (base := base) fx
  exact ⟨cd_Poly fx, (by show ("__add__" : Str) ∉ fls 21; decide), _, fd, ["self", "other"], fx.meth 45, conv_pos F rfl (fun _ _ _ _ _ _ us hl => match us, hl with | [_, _], _ => rfl), O⟩
theorem ok_Operator_mul (fx : Fx P K mg) : ∃ fd, FunD K "__mul__" "Operator.__mul__" (defArgs s_Operator_mul) (defBody s_Operator_mul) (defScope s_Operator_mul) (h_Operator_mul.dv K) [] ((atM "Operator" "__mul__") K) fd ∧ FnOk P w K mg base (L2.CX P w) 36 ((atM "Operator" "__mul__") K) fd ["self", "other"] (spD K (tab K) f_Operator_mul) := by
  obtain ⟨fd, F⟩ := fx.fun_ 27 (d := h_Operator_mul)
  exact ⟨fd, F, fnOk_of F sc_Operator_mul rfl rfl fun cdv A outer s H E hr tk => pdss_cons (pds_setLc (own := [("_", 3)]) rfl sc_Operator_mul.nd rfl rfl (sw_true rfl rfl rfl (by decide +kernel)) (pdi_rng1 (fx.free 5) (pd_add (pd_len (fx.free 12) (pd_fld (tbl [(26, 0)]) (tbl_all (all_cons (⟨(cd_Operator fx), rfl⟩) all_nil)) (pd_var 0))) (pd_len (fx.free 12) (pd_fld (tbl [(26, 0)]) (tbl_all (all_cons (⟨(cd_Operator fx), rfl⟩) all_nil)) (pd_var 1))))) (blkOk_by (by kernel_rfl)) (tg_name (by decide)) (fun s0 H1 C0 cl0 fp0 => pg_name sc_Operator_mul.nd rfl (by first | exact Or.inl rfl | exact Or.inr rfl) (by first | exact .inl rfl | exact .inr rfl)) (fun s0 H1 C0 cl0 fp0 => pdts_nil) (fun s0 H1 C0 cl0 fp0 => pd_callCG (cg_Poly_1 fx) (hr.mono (by decide)) takes_W0 (pda_cons (pd_lst pda_nil) pda_nil)))
    (pdss_cons (pds_for (vs := [4, 5]) PassesOwn.leaving rfl (pdi_en (fx.free 36) (pd_fld (tbl [(26, 0)]) (tbl_all (all_cons (⟨(cd_Operator fx), rfl⟩) all_nil)) (pd_var 0))) (pg_tup rfl (pgs_name sc_Operator_mul.nd (pgs_name sc_Operator_mul.nd pgs_none)) rfl rfl) (tg_tup (is := [4, 5]) rfl (by decide))
    (pdss_one (pds_for (vs := [6, 7]) PassesOwn.leaving rfl (pdi_en (fx.free 36) (pd_fld (tbl [(26, 0)]) (tbl_all (all_cons (⟨(cd_Operator fx), rfl⟩) all_nil)) (pd_var 1))) (pg_tup rfl (pgs_name sc_Operator_mul.nd (pgs_name sc_Operator_mul.nd pgs_none)) rfl rfl) (tg_tup (is := [6, 7]) rfl (by decide))
    (pdss_one (pds_setIx (i := 2) (pd_op (opr_or op_add (op_own2 (k := 35) rfl (meths_cons ((mo_Poly_add_2 fx).mono (by decide)) meths_nil) (hr.mono (by decide)) (tbl_all (all_cons (fx.bool 6) all_nil)))) (o2_own o2_I0) (pd_item (pd_var 2) (pd_add (pd_var 4) (pd_var 6))) (pd_op (opr_or op_mulD (op_own2 (k := 35) rfl (meths_cons ((mo_Poly_mul_2 fx).mono (by decide)) meths_nil) (hr.mono (by decide)) (tbl_all (all_cons (fx.bool 6) all_nil)))) (o2_own (o2_I fun _ _ h => h)) (pd_var 5) (pd_meth (k := 35) (meths_cons ((mo_Poly_shifted_2 fx).mono (by decide)) meths_nil) (hr.mono (by decide)) tk (pd_var 7) (pda_cons (pd_var 4) pda_nil)))) (pd_add (pd_var 4) (pd_var 6)))))))
    (pdss_one (pds_ret (pd_bor 2 (pd_callCG (cg_Operator_1 fx) (hr.mono (by decide)) tk (pda_cons (pd_var 2) pda_nil))))))⟩
theorem mo_Operator_mul_2 (fx : Fx P K mg) : MethOk P w K mg base (tab K) 36 26 "__mul__" 2 (fun ds => ds) f_Operator_mul := by
  obtain ⟨fd, F, O⟩ := ok_Operator_mul (P := P) (w := w) (base := base) fx
  exact ⟨cd_Operator fx, (by show ("__mul__" : Str) ∉ fls 26; decide), _, fd, ["self", "other"], fx.meth 13, conv_pos F rfl (fun _ _ _ _ _ _ us hl => match us, hl with | [_, _], _ => rfl), O⟩
theorem ok_law_shift (fx : Fx P K mg) : ∃ fd, FunD K "_law_shift" "_law_shift" (defArgs s_law_shift) (defBody s_law_shift) (defScope s_law_shift) (h_law_shift.dv K) [] ((atG "_law_shift") K) fd ∧ FnOk P w K mg base (L2.CX P w) 1 ((atG "_law_shift") K) fd ["_law_xs", "_law_step"] (spD K (tab K) f_law_shift) := by
  obtain ⟨fd, F⟩ := fx.fun_ 28 (d := h_law_shift)
  exact ⟨fd, F, fnOk_of F sc_law_shift rfl rfl fun cdv A outer s H E hr tk => pdss_cons (pds_set 2 sc_law_shift.nd (pd_listf (fx.free 28) (pd_var 0)))
    (pdss_cons (pds_for (vs := [3]) PassesOwn.leaving rfl (pdi_rng1 (fx.free 5) (pd_sub (pd_len (fx.free 12) (pd_var 2)) pd_int)) (pg_name sc_law_shift.nd rfl (by first | exact Or.inl rfl | exact Or.inr rfl) (by first | exact .inl rfl | exact .inr rfl)) (tg_name (by decide))
    (pdss_one (pds_for (vs := [4]) PassesOwn.leaving rfl (pdi_rngD (fx.free 5) (pd_sub (pd_len (fx.free 12) (pd_var 2)) pd_int) (pd_sub (pd_var 3) pd_int)) (pg_name sc_law_shift.nd rfl (by first | exact Or.inl rfl | exact Or.inr rfl) (by first | exact .inl rfl | exact .inr rfl)) (tg_name (by decide))
    (pdss_one (pds_setIx (i := 2) (pd_add (pd_item (pd_var 2) (pd_var 4)) (pd_mul (pd_var 1) (pd_item (pd_var 2) (pd_add (pd_var 4) pd_int)))) (pd_var 4))))))
    (pdss_one (pds_retV 2)))⟩
theorem dg_law_shift_2 (fx : Fx P K mg) : DefG P w K mg base (tab K) 1 "_law_shift" 2 (fun ds => ds) f_law_shift := by
  obtain ⟨fd, F, O⟩ := ok_law_shift (P := P) (w := w) (base := base) fx
  exact ⟨_, fd, ["_law_xs", "_law_step"], fx.glo 51, F.kp, conv_pos F rfl (fun _ _ _ _ _ _ us hl => match us, hl with | [_, _], _ => rfl), O⟩
theorem ok_law_move (fx : Fx P K mg) : ∃ fd, FunD K "_law_move" "_law_move" (defArgs s_law_move) (defBody s_law_move) (defScope s_law_move) (h_law_move.dv K) [] ((atG "_law_move") K) fd ∧ FnOk P w K mg base (L2.CX P w) 2 ((atG "_law_move") K) fd ["_law_part", "_law_step"] (spD K (tab K) f_law_move) := by
  obtain ⟨fd, F⟩ := fx.fun_ 29 (d := h_law_move)
  exact ⟨fd, F, fnOk_of F sc_law_move rfl rfl fun cdv A outer s H E hr tk => pdss_one (pds_ret (pd_tup (pda_cons (pd_callG (dg_law_shift_2 fx) (hr.mono (by decide)) tk (pda_cons (pd_item (pd_var 0) pd_int) (pda_cons (pd_var 1) pda_nil))) (pda_cons (pd_item (pd_var 0) pd_int) pda_nil))))⟩
theorem dg_law_move_2 (fx : Fx P K mg) : DefG P w K mg base (tab K) 2 "_law_move" 2 (fun ds => ds) f_law_move := by
  obtain ⟨fd, F, O⟩ := ok_law_move (P := P) (w := w) (base := base) fx
  exact ⟨_, fd, ["_law_part", "_law_step"], fx.glo 48, F.kp, conv_pos F rfl (fun _ _ _ _ _ _ us hl => match us, hl with | [_, _], _ => rfl), O⟩
theorem ok_law_mul (fx : Fx P K mg) : ∃ fd, FunD K "_law_mul" "_law_mul" (defArgs s_law_mul) (defBody s_law_mul) (defScope s_law_mul) (h_law_mul.dv K) [] ((atG "_law_mul") K) fd ∧ FnOk P w K mg base (L2.CX P w) 2 ((atG "_law_mul") K) fd ["_law_xs", "_law_ys"] (spD K (tab K) f_law_mul) := by
  obtain ⟨fd, F⟩ := fx.fun_ 30 (d := h_law_mul)
  exact ⟨fd, F, fnOk_of F sc_law_mul rfl rfl fun cdv A outer s H E hr tk => pdss_cons (pds_setLc (own := [("_law_k", 3)]) rfl sc_law_mul.nd rfl rfl (sw_true rfl rfl rfl (by decide +kernel)) (pdi_rng1 (fx.free 5) (pd_add (pd_len (fx.free 12) (pd_var 0)) (pd_len (fx.free 12) (pd_var 1)))) (blkOk_by (by kernel_rfl)) (tg_name (by decide)) (fun s0 H1 C0 cl0 fp0 => pg_name sc_law_mul.nd rfl (by first | exact Or.inl rfl | exact Or.inr rfl) (by first | exact .inl rfl | exact .inr rfl)) (fun s0 H1 C0 cl0 fp0 => pdts_nil) (fun s0 H1 C0 cl0 fp0 => pd_int))
    (pdss_cons (pds_for (vs := [4]) PassesOwn.leaving rfl (pdi_rng1 (fx.free 5) (pd_len (fx.free 12) (pd_var 0))) (pg_name sc_law_mul.nd rfl (by first | exact Or.inl rfl | exact Or.inr rfl) (by first | exact .inl rfl | exact .inr rfl)) (tg_name (by decide))
    (pdss_one (pds_for (vs := [5]) PassesOwn.leaving rfl (pdi_rng1 (fx.free 5) (pd_len (fx.free 12) (pd_var 1))) (pg_name sc_law_mul.nd rfl (by first | exact Or.inl rfl | exact Or.inr rfl) (by first | exact .inl rfl | exact .inr rfl)) (tg_name (by decide))
    (pdss_one (pds_setIx (i := 2) (pd_add (pd_item (pd_var 2) (pd_add (pd_var 4) (pd_var 5))) (pd_mul (pd_item (pd_var 0) (pd_var 4)) (pd_item (pd_var 1) (pd_var 5)))) (pd_add (pd_var 4) (pd_var 5)))))))
    (pdss_one (pds_frz 2 (pds_ret (pd_callG (dg_law_trim_1 fx) (hr.mono (by decide)) tk (pda_cons (pd_var 2) pda_nil))))))⟩
theorem dg_law_mul_2 (fx : Fx P K mg) : DefG P w K mg base (tab K) 2 "_law_mul" 2 (fun ds => ds) f_law_mul := by
  obtain ⟨fd, F, O⟩ := ok_law_mul (P := P) (w := w) (base := base) fx
  exact ⟨_, fd, ["_law_xs", "_law_ys"], fx.glo 52, F.kp, conv_pos F rfl (fun _ _ _ _ _ _ us hl => match us, hl with | [_, _], _ => rfl), O⟩
theorem ok_law_times (fx : Fx P K mg) : ∃ fd, FunD K "_law_times" "_law_times" (defArgs s_law_times) (defBody s_law_times) (defScope s_law_times) (h_law_times.dv K) [] ((atG "_law_times") K) fd ∧ FnOk P w K mg base (L2.CX P w) 3 ((atG "_law_times") K) fd ["_law_a", "_law_b"] (spD K (tab K) f_law_times) := by
  obtain ⟨fd, F⟩ := fx.fun_ 31 (d := h_law_times)
  exact ⟨fd, F, fnOk_of F sc_law_times rfl rfl fun cdv A outer s H E hr tk => pdss_one (pds_ret (pd_tup (pda_cons (pd_callG (dg_law_mul_2 fx) (hr.mono (by decide)) tk (pda_cons (pd_item (pd_var 0) pd_int) (pda_cons (pd_item (pd_var 1) pd_int) pda_nil))) (pda_cons (pd_mul (pd_item (pd_var 0) pd_int) (pd_item (pd_var 1) pd_int)) pda_nil))))⟩
theorem dg_law_times_2 (fx : Fx P K mg) : DefG P w K mg base (tab K) 3 "_law_times" 2 (fun ds => ds) f_law_times := by
  obtain ⟨fd, F, O⟩ := ok_law_times (P := P) (w := w) (base := base) fx
  exact ⟨_, fd, ["_law_a", "_law_b"], fx.glo 49, F.kp, conv_pos F rfl (fun _ _ _ _ _ _ us hl => match us, hl with | [_, _], _ => rfl), O⟩
theorem ok_law_scale (fx : Fx P K mg) : ∃ fd, FunD K "_law_scale" "_law_scale" (defArgs s_law_scale) (defBody s_law_scale) (defScope s_law_scale) (h_law_scale.dv K) [] ((atG "_law_scale") K) fd ∧ FnOk P w K mg base (L2.CX P w) 2 ((atG "_law_scale") K) fd ["_law_xs", "_law_factor"] (spD K (tab K) f_law_scale) := by
  obtain ⟨fd, F⟩ := fx.fun_ 32 (d := h_law_scale)
  exact ⟨fd, F, fnOk_of F sc_law_scale rfl rfl fun cdv A outer s H E hr tk => pdss_one (pds_ret (pd_callG (dg_law_trim_1 fx) (hr.mono (by decide)) tk (pda_cons (pd_lc (own := [("_law_x", 2)]) rfl sc_law_scale.nd (pdi_seq (pd_var 0)) (blkOk_by (by kernel_rfl)) (tg_name (by decide)) (fun s0 H1 C0 cl0 fp0 => pg_name sc_law_scale.nd rfl (by first | exact Or.inl rfl | exact Or.inr rfl) (by first | exact .inl rfl | exact .inr rfl)) (fun s0 H1 C0 cl0 fp0 => pdts_nil) (fun s0 H1 C0 cl0 fp0 => pd_mul (pd_var 1) (pd_var 2))) pda_nil)))⟩
theorem dg_law_scale_2 (fx : Fx P K mg) : DefG P w K mg base (tab K) 2 "_law_scale" 2 (fun ds => ds) f_law_scale := by
  obtain ⟨fd, F, O⟩ := ok_law_scale (P := P) (w := w) (base := base) fx
  exact ⟨_, fd, ["_law_xs", "_law_factor"], fx.glo 53, F.kp, conv_pos F rfl (fun _ _ _ _ _ _ us hl => match us, hl with | [_, _], _ => rfl), O⟩
theorem ok_law_sum (fx : Fx P K mg) : ∃ fd, FunD K "_law_sum" "_law_sum" (defArgs s_law_sum) (defBody s_law_sum) (defScope s_law_sum) (h_law_sum.dv K) [] ((atG "_law_sum") K) fd ∧ FnOk P w K mg base (L2.CX P w) 2 ((atG "_law_sum") K) fd ["_law_xs", "_law_ys"] (spD K (tab K) f_law_sum) := by
  obtain ⟨fd, F⟩ := fx.fun_ 33 (d := h_law_sum)
  exact ⟨fd, F, fnOk_of F sc_law_sum rfl rfl fun cdv A outer s H E hr tk => pdss_cons (pds_setLc (own := [("_law_k", 3)]) rfl sc_law_sum.nd rfl rfl (sw_true rfl rfl rfl (by decide +kernel)) (pdi_rng1 (fx.free 5) (pd_max rfl (fx.free 46) (pd_len (fx.free 12) (pd_var 0)) (pd_len (fx.free 12) (pd_var 1)))) (blkOk_by (by kernel_rfl)) (tg_name (by decide)) (fun s0 H1 C0 cl0 fp0 => pg_name sc_law_sum.nd rfl (by first | exact Or.inl rfl | exact Or.inr rfl) (by first | exact .inl rfl | exact .inr rfl)) (fun s0 H1 C0 cl0 fp0 => pdts_nil) (fun s0 H1 C0 cl0 fp0 => pd_int))
    (pdss_cons (pds_for (vs := [4]) PassesOwn.leaving rfl (pdi_rng1 (fx.free 5) (pd_len (fx.free 12) (pd_var 0))) (pg_name sc_law_sum.nd rfl (by first | exact Or.inl rfl | exact Or.inr rfl) (by first | exact .inl rfl | exact .inr rfl)) (tg_name (by decide))
    (pdss_one (pds_setIx (i := 2) (pd_item (pd_var 0) (pd_var 4)) (pd_var 4))))
    (pdss_cons (pds_for (vs := [5]) PassesOwn.leaving rfl (pdi_rng1 (fx.free 5) (pd_len (fx.free 12) (pd_var 1))) (pg_name sc_law_sum.nd rfl (by first | exact Or.inl rfl | exact Or.inr rfl) (by first | exact .inl rfl | exact .inr rfl)) (tg_name (by decide))
    (pdss_one (pds_setIx (i := 2) (pd_add (pd_item (pd_var 2) (pd_var 5)) (pd_item (pd_var 1) (pd_var 5))) (pd_var 5))))
    (pdss_one (pds_frz 2 (pds_ret (pd_callG (dg_law_trim_1 fx) (hr.mono (by decide)) tk (pda_cons (pd_var 2) pda_nil)))))))⟩
theorem dg_law_sum_2 (fx : Fx P K mg) : DefG P w K mg base (tab K) 2 "_law_sum" 2 (fun ds => ds) f_law_sum := by
  obtain ⟨fd, F, O⟩ := ok_law_sum (P := P) (w := w) (base := base) fx
  exact ⟨_, fd, ["_law_xs", "_law_ys"], fx.glo 54, F.kp, conv_pos F rfl (fun _ _ _ _ _ _ us hl => match us, hl with | [_, _], _ => rfl), O⟩
theorem ok_law_plus (fx : Fx P K mg) : ∃ fd, FunD K "_law_plus" "_law_plus" (defArgs s_law_plus) (defBody s_law_plus) (defScope s_law_plus) (h_law_plus.dv K) [] ((atG "_law_plus") K) fd ∧ FnOk P w K mg base (L2.CX P w) 3 ((atG "_law_plus") K) fd ["_law_a", "_law_b"] (spD K (tab K) f_law_plus) := by
  obtain ⟨fd, F⟩ := fx.fun_ 34 (d := h_law_plus)
  exact ⟨fd, F, fnOk_of F sc_law_plus rfl rfl fun cdv A outer s H E hr tk => pdss_one (pds_ret (pd_tup (pda_cons (pd_callG (dg_law_sum_2 fx) (hr.mono (by decide)) tk (pda_cons (pd_callG (dg_law_scale_2 fx) (hr.mono (by decide)) tk (pda_cons (pd_item (pd_var 0) pd_int) (pda_cons (pd_item (pd_var 1) pd_int) pda_nil))) (pda_cons (pd_callG (dg_law_scale_2 fx) (hr.mono (by decide)) tk (pda_cons (pd_item (pd_var 1) pd_int) (pda_cons (pd_item (pd_var 0) pd_int) pda_nil))) pda_nil))) (pda_cons (pd_mul (pd_item (pd_var 0) pd_int) (pd_item (pd_var 1) pd_int)) pda_nil))))⟩
theorem dg_law_plus_2 (fx : Fx P K mg) : DefG P w K mg base (tab K) 3 "_law_plus" 2 (fun ds => ds) f_law_plus := by
  obtain ⟨fd, F, O⟩ := ok_law_plus (P := P) (w := w) (base := base) fx
  exact ⟨_, fd, ["_law_a", "_law_b"], fx.glo 50, F.kp, conv_pos F rfl (fun _ _ _ _ _ _ us hl => match us, hl with | [_, _], _ => rfl), O⟩
theorem ok_law_after (fx : Fx P K mg) : ∃ fd, FunD K "_law_after" "_law_after" (defArgs s_law_after) (defBody s_law_after) (defScope s_law_after) (h_law_after.dv K) [] ((atG "_law_after") K) fd ∧ FnOk P w K mg base (L2.CX P w) 4 ((atG "_law_after") K) fd ["_law_first", "_law_second"] (spD K (tab K) f_law_after) := by
  obtain ⟨fd, F⟩ := fx.fun_ 35 (d := h_law_after)
  exact ⟨fd, F, fnOk_of F sc_law_after rfl rfl fun cdv A outer s H E hr tk => pdss_cons (pds_setLc (own := [("_law_k", 3)]) rfl sc_law_after.nd rfl rfl (sw_true rfl rfl rfl (by decide +kernel)) (pdi_rng1 (fx.free 5) (pd_add (pd_len (fx.free 12) (pd_var 0)) (pd_len (fx.free 12) (pd_var 1)))) (blkOk_by (by kernel_rfl)) (tg_name (by decide)) (fun s0 H1 C0 cl0 fp0 => pg_name sc_law_after.nd rfl (by first | exact Or.inl rfl | exact Or.inr rfl) (by first | exact .inl rfl | exact .inr rfl)) (fun s0 H1 C0 cl0 fp0 => pdts_nil) (fun s0 H1 C0 cl0 fp0 => pd_tup (pda_cons (pd_lst pda_nil) (pda_cons pd_int pda_nil))))
    (pdss_cons (pds_for (vs := [4]) PassesOwn.leaving rfl (pdi_rng1 (fx.free 5) (pd_len (fx.free 12) (pd_var 0))) (pg_name sc_law_after.nd rfl (by first | exact Or.inl rfl | exact Or.inr rfl) (by first | exact .inl rfl | exact .inr rfl)) (tg_name (by decide))
    (pdss_one (pds_for (vs := [5]) PassesOwn.leaving rfl (pdi_rng1 (fx.free 5) (pd_len (fx.free 12) (pd_var 1))) (pg_name sc_law_after.nd rfl (by first | exact Or.inl rfl | exact Or.inr rfl) (by first | exact .inl rfl | exact .inr rfl)) (tg_name (by decide))
    (pdss_one (pds_setIx (i := 2) (pd_callG (dg_law_plus_2 fx) (hr.mono (by decide)) tk (pda_cons (pd_item (pd_var 2) (pd_add (pd_var 4) (pd_var 5))) (pda_cons (pd_callG (dg_law_times_2 fx) (hr.mono (by decide)) tk (pda_cons (pd_item (pd_var 0) (pd_var 4)) (pda_cons (pd_callG (dg_law_move_2 fx) (hr.mono (by decide)) tk (pda_cons (pd_item (pd_var 1) (pd_var 5)) (pda_cons (pd_var 4) pda_nil))) pda_nil))) pda_nil))) (pd_add (pd_var 4) (pd_var 5)))))))
    (pdss_one (pds_frz 2 (pds_ret (pd_callG (dg_law_cut_1 fx) (hr.mono (by decide)) tk (pda_cons (pd_var 2) pda_nil))))))⟩
theorem dg_law_after_2 (fx : Fx P K mg) : DefG P w K mg base (tab K) 4 "_law_after" 2 (fun ds => ds) f_law_after := by
  obtain ⟨fd, F, O⟩ := ok_law_after (P := P) (w := w) (base := base) fx
  exact ⟨_, fd, ["_law_first", "_law_second"], fx.glo 14, F.kp, conv_pos F rfl (fun _ _ _ _ _ _ us hl => match us, hl with | [_, _], _ => rfl), O⟩
theorem ok_law_read (fx : Fx P K mg) : ∃ fd, FunD K "_law_read" "_law_read" (defArgs s_law_read) (defBody s_law_read) (defScope s_law_read) (h_law_read.dv K) [] ((atG "_law_read") K) fd ∧ FnOk P w K mg base (L2.CX P w) 2 ((atG "_law_read") K) fd ["_law_p"] (spD K (tab K) f_law_read) := by
  obtain ⟨fd, F⟩ := fx.fun_ 36 (d := h_law_read)
  exact ⟨fd, F, fnOk_of F sc_law_read rfl rfl fun cdv A outer s H E hr tk => pdss_cons (pds_if (pdt_of (pdw_or (pdt_not (pdt_tru (pd_isC 21 [] [(21, true)] (all_nil) (all_cons (⟨of_decide_eq_true (fx.bool 8), (isi_Poly fx)⟩) all_nil) (fx.free 41) (fx.glo 29) (pd_var 0)))) (pdw_or1 (pdt_not (pdt_tru (pd_isT "tuple" [] (all_nil) (fx.free 41) (fx.free 33) (pd_fld (tbl [(21, 0)]) (tbl_all (all_cons (⟨(cd_Poly fx), rfl⟩) all_nil)) (pd_var 0)) PyProof.Rows.boot_tuple))))))
    (pdss_one (pds_ret pd_non))
    pdss_nil)
    (pdss_cons (pds_if (pdt_of (pdw_or (pdt_not (pdt_tru (pd_callG (dg_law_is_whole_1 fx) (hr.mono (by decide)) tk (pda_cons (pd_fld (tbl [(21, 1)]) (tbl_all (all_cons (⟨(cd_Poly fx), rfl⟩) all_nil)) (pd_var 0)) pda_nil)))) (pdw_or1 (pdt_lt (pd_fld (tbl [(21, 1)]) (tbl_all (all_cons (⟨(cd_Poly fx), rfl⟩) all_nil)) (pd_var 0)) pd_int))))
    (pdss_one (pds_ret pd_non))
    pdss_nil)
    (pdss_cons (pds_for (vs := [1]) PassesOwn.leaving rfl (pdi_seq (pd_fld (tbl [(21, 0)]) (tbl_all (all_cons (⟨(cd_Poly fx), rfl⟩) all_nil)) (pd_var 0))) (pg_name sc_law_read.nd rfl (by first | exact Or.inl rfl | exact Or.inr rfl) (by first | exact .inl rfl | exact .inr rfl)) (tg_name (by decide))
    (pdss_one (pds_if (pdt_not (pdt_tru (pd_callG (dg_law_is_whole_1 fx) (hr.mono (by decide)) tk (pda_cons (pd_var 1) pda_nil))))
    (pdss_one (pds_ret pd_non))
    pdss_nil)))
    (pdss_one (pds_ret (pd_tup (pda_cons (pd_callG (dg_law_trim_1 fx) (hr.mono (by decide)) tk (pda_cons (pd_listf (fx.free 28) (pd_fld (tbl [(21, 0)]) (tbl_all (all_cons (⟨(cd_Poly fx), rfl⟩) all_nil)) (pd_var 0))) pda_nil)) (pda_cons (pd_fld (tbl [(21, 1)]) (tbl_all (all_cons (⟨(cd_Poly fx), rfl⟩) all_nil)) (pd_var 0)) pda_nil)))))))⟩
theorem dg_law_read_1 (fx : Fx P K mg) : DefG P w K mg base (tab K) 2 "_law_read" 1 (fun ds => ds) f_law_read := by
  obtain ⟨fd, F, O⟩ := ok_law_read (P := P) (w := w) (base := base) fx
  exact ⟨_, fd, ["_law_p"], fx.glo 55, F.kp, conv_pos F rfl (fun _ _ _ _ _ _ us hl => match us, hl with | [_], _ => rfl), O⟩
theorem ok_law_read_operator (fx : Fx P K mg) : ∃ fd, FunD K "_law_read_operator" "_law_read_operator" (defArgs s_law_read_operator) (defBody s_law_read_operator) (defScope s_law_read_operator) (h_law_read_operator.dv K) [] ((atG "_law_read_operator") K) fd ∧ FnOk P w K mg base (L2.CX P w) 3 ((atG "_law_read_operator") K) fd ["_law_operator_here"] (spD K (tab K) f_law_read_operator) := by
  obtain ⟨fd, F⟩ := fx.fun_ 37 (d := h_law_read_operator)
  exact ⟨fd, F, fnOk_of F sc_law_read_operator rfl rfl fun cdv A outer s H E hr tk => pdss_cons (pds_if (pdt_of (pdw_or (pdt_not (pdt_tru (pd_isC 26 [] [(26, true)] (all_nil) (all_cons (⟨of_decide_eq_true (fx.bool 7), (isi_Operator fx)⟩) all_nil) (fx.free 41) (fx.glo 26) (pd_var 0)))) (pdw_or1 (pdt_not (pdt_tru (pd_isT "tuple" [] (all_nil) (fx.free 41) (fx.free 33) (pd_fld (tbl [(26, 0)]) (tbl_all (all_cons (⟨(cd_Operator fx), rfl⟩) all_nil)) (pd_var 0)) PyProof.Rows.boot_tuple))))))
    (pdss_one (pds_ret pd_non))
    pdss_nil)
    (pdss_cons (pds_setLc (own := [("_law_p", 2)]) rfl sc_law_read_operator.nd rfl rfl (sw_true rfl rfl rfl (by decide +kernel)) (pdi_seq (pd_fld (tbl [(26, 0)]) (tbl_all (all_cons (⟨(cd_Operator fx), rfl⟩) all_nil)) (pd_var 0))) (blkOk_by (by kernel_rfl)) (tg_name (by decide)) (fun s0 H1 C0 cl0 fp0 => pg_name sc_law_read_operator.nd rfl (by first | exact Or.inl rfl | exact Or.inr rfl) (by first | exact .inl rfl | exact .inr rfl)) (fun s0 H1 C0 cl0 fp0 => pdts_nil) (fun s0 H1 C0 cl0 fp0 => pd_callG (dg_law_read_1 fx) (hr.mono (by decide)) takes_W0 (pda_cons (pd_var 2) pda_nil)))
    (pdss_cons (pds_if (pdt_bor 1 (pdt_of (pdw_or (pdt_inD hr pd_non (pd_var 1)) (pdw_or1 (pdt_neS (pd_len (fx.free 12) (pd_callG (dg_law_cut_1 fx) (hr.mono (by decide)) tk (pda_cons (pd_var 1) pda_nil))) (pd_len (fx.free 12) (pd_var 1)))))))
    (pdss_one (pds_ret pd_non))
    pdss_nil)
    (pdss_one (pds_retV 1))))⟩
theorem dg_law_read_operator_1 (fx : Fx P K mg) : DefG P w K mg base (tab K) 3 "_law_read_operator" 1 (fun ds => ds) f_law_read_operator := by
  obtain ⟨fd, F, O⟩ := ok_law_read_operator (P := P) (w := w) (base := base) fx
  exact ⟨_, fd, ["_law_operator_here"], fx.glo 15, F.kp, conv_pos F rfl (fun _ _ _ _ _ _ us hl => match us, hl with | [_], _ => rfl), O⟩
theorem ok_law_alike (fx : Fx P K mg) : ∃ fd, FunD K "_law_alike" "_law_alike" (defArgs s_law_alike) (defBody s_law_alike) (defScope s_law_alike) (h_law_alike.dv K) [] ((atG "_law_alike") K) fd ∧ FnOk P w K mg base (L2.CX P w) 3 ((atG "_law_alike") K) fd ["_law_a", "_law_b"] (spD K (tab K) f_law_alike) := by
  obtain ⟨fd, F⟩ := fx.fun_ 38 (d := h_law_alike)
  exact ⟨fd, F, fnOk_of F sc_law_alike rfl rfl fun cdv A outer s H E hr tk => pdss_one (pds_ret (pd_eqD hr (pd_callG (dg_law_scale_2 fx) (hr.mono (by decide)) tk (pda_cons (pd_item (pd_var 0) pd_int) (pda_cons (pd_item (pd_var 1) pd_int) pda_nil))) (pd_callG (dg_law_scale_2 fx) (hr.mono (by decide)) tk (pda_cons (pd_item (pd_var 1) pd_int) (pda_cons (pd_item (pd_var 0) pd_int) pda_nil)))))⟩
theorem dg_law_alike_2 (fx : Fx P K mg) : DefG P w K mg base (tab K) 3 "_law_alike" 2 (fun ds => ds) f_law_alike := by
  obtain ⟨fd, F, O⟩ := ok_law_alike (P := P) (w := w) (base := base) fx
  exact ⟨_, fd, ["_law_a", "_law_b"], fx.glo 56, F.kp, conv_pos F rfl (fun _ _ _ _ _ _ us hl => match us, hl with | [_, _], _ => rfl), O⟩
theorem ok_law_same (fx : Fx P K mg) : ∃ fd, FunD K "_law_same" "_law_same" (defArgs s_law_same) (defBody s_law_same) (defScope s_law_same) (h_law_same.dv K) [] ((atG "_law_same") K) fd ∧ FnOk P w K mg base (L2.CX P w) 4 ((atG "_law_same") K) fd ["_law_found", "_law_parts"] (spD K (tab K) f_law_same) := by
  obtain ⟨fd, F⟩ := fx.fun_ 39 (d := h_law_same)
  exact ⟨fd, F, fnOk_of F sc_law_same rfl rfl fun cdv A outer s H E hr tk => pdss_cons (pds_if (pdt_of (pdw_or (pdt_isN (pd_var 0) pd_non) (pdw_or1 (pdt_neS (pd_len (fx.free 12) (pd_var 0)) (pd_len (fx.free 12) (pd_var 1))))))
    (pdss_one (pds_ret pd_bl))
    pdss_nil)
    (pdss_cons (pds_for (vs := [2]) PassesOwn.leaving rfl (pdi_rng1 (fx.free 5) (pd_len (fx.free 12) (pd_var 1))) (pg_name sc_law_same.nd rfl (by first | exact Or.inl rfl | exact Or.inr rfl) (by first | exact .inl rfl | exact .inr rfl)) (tg_name (by decide))
    (pdss_one (pds_if (pdt_not (pdt_tru (pd_callG (dg_law_alike_2 fx) (hr.mono (by decide)) tk (pda_cons (pd_item (pd_var 0) (pd_var 2)) (pda_cons (pd_item (pd_var 1) (pd_var 2)) pda_nil)))))
    (pdss_one (pds_ret pd_bl))
    pdss_nil)))
    (pdss_one (pds_ret pd_bl)))⟩
theorem dg_law_same_2 (fx : Fx P K mg) : DefG P w K mg base (tab K) 4 "_law_same" 2 (fun ds => ds) f_law_same := by
  obtain ⟨fd, F, O⟩ := ok_law_same (P := P) (w := w) (base := base) fx
  exact ⟨_, fd, ["_law_found", "_law_parts"], fx.glo 16, F.kp, conv_pos F rfl (fun _ _ _ _ _ _ us hl => match us, hl with | [_, _], _ => rfl), O⟩
theorem ok_law_are (fx : Fx P K mg) : ∃ fd, FunD K "_law_are" "_law_are" (defArgs s_law_are) (defBody s_law_are) (defScope s_law_are) (h_law_are.dv K) [] ((atG "_law_are") K) fd ∧ FnOk P w K mg base (L2.CX P w) 3 ((atG "_law_are") K) fd ["_law_xs", "_law_pairs_here"] (spD K (tab K) f_law_are) := by
  obtain ⟨fd, F⟩ := fx.fun_ 40 (d := h_law_are)
  exact ⟨fd, F, fnOk_of F sc_law_are rfl rfl fun cdv A outer s H E hr tk => pdss_cons (pds_if (pdt_of (pdw_or (pdt_not (pdt_tru (pd_isT "list" [] (all_nil) (fx.free 41) (fx.free 28) (pd_var 0) PyProof.Rows.boot_list))) (pdw_or1 (pdt_neS (pd_len (fx.free 12) (pd_var 0)) (pd_len (fx.free 12) (pd_var 1))))))
    (pdss_one (pds_ret pd_bl))
    pdss_nil)
    (pdss_cons (pds_for (vs := [2]) PassesOwn.leaving rfl (pdi_rng1 (fx.free 5) (pd_len (fx.free 12) (pd_var 1))) (pg_name sc_law_are.nd rfl (by first | exact Or.inl rfl | exact Or.inr rfl) (by first | exact .inl rfl | exact .inr rfl)) (tg_name (by decide))
    (pdss_one (pds_if (pdt_not (pdt_tru (pd_callG (dg_law_is_2 fx) (hr.mono (by decide)) tk (pda_cons (pd_item (pd_var 0) (pd_var 2)) (pda_cons (pd_item (pd_var 1) (pd_var 2)) pda_nil)))))
    (pdss_one (pds_ret pd_bl))
    pdss_nil)))
    (pdss_one (pds_ret pd_bl)))⟩
theorem dg_law_are_2 (fx : Fx P K mg) : DefG P w K mg base (tab K) 3 "_law_are" 2 (fun ds => ds) f_law_are := by
  obtain ⟨fd, F, O⟩ := ok_law_are (P := P) (w := w) (base := base) fx
  exact ⟨_, fd, ["_law_xs", "_law_pairs_here"], fx.glo 17, F.kp, conv_pos F rfl (fun _ _ _ _ _ _ us hl => match us, hl with | [_, _], _ => rfl), O⟩
theorem ok_law (fx : Fx P K mg) {f : Addr} {fd : FuncData} (F : FunD K "law" "law" (defArgs s_law) (defBody s_law) (defScope s_law) [] [] f fd) : FnOk P w K mg base (L2.CX P w) 37 f fd ["_law_script"] (spD K (tab K) f_law) :=
  fnOk_of F sc_law rfl rfl fun cdv A outer s H E hr tk => pdss_cons (pds_set 1 sc_law.nd (pd_callG (dg_law_digits_3 fx) (hr.mono (by decide)) tk (pda_cons (pd_callG (dg_law_cell_2 fx) (hr.mono (by decide)) tk (pda_cons (pd_var 0) (pda_cons pd_int pda_nil))) (pda_cons pd_int (pda_cons pd_int pda_nil)))))
    (pdss_cons (pds_setLc (own := [("_law_d", 3)]) rfl sc_law.nd rfl rfl (sw_true rfl rfl rfl (by decide +kernel)) (pdi_seq (pd_slice (pd_var 1) pdo_none (pdo_some pd_int))) (blkOk_by (by kernel_rfl)) (tg_name (by decide)) (fun s0 H1 C0 cl0 fp0 => pg_name sc_law.nd rfl (by first | exact Or.inl rfl | exact Or.inr rfl) (by first | exact .inl rfl | exact .inr rfl)) (fun s0 H1 C0 cl0 fp0 => pdts_nil) (fun s0 H1 C0 cl0 fp0 => pd_sub (pd_mod (pd_intf (fx.free 2) (pd_var 3)) pd_int) pd_int))
    (pdss_cons (pds_if (pdt_eqS (pd_mod (pd_intf (fx.free 2) (pd_div (dv_fn fx.1 (fx.bool 0) sc_law hr (by decide)) (pd_item (pd_var 1) pd_int) pd_int)) pd_int) pd_int)
    (pdss_one (pds_set 2 sc_law.nd (pd_lst (pda_cons pd_int (pda_cons (pd_item (pd_var 2) pd_int) pda_nil)))))
    pdss_nil)
    (pdss_cons (pds_set 4 sc_law.nd (pd_callG (dg_law_cut_1 fx) (hr.mono (by decide)) tk (pda_cons (pd_callG (dg_law_drawn_4 fx) (hr.mono (by decide)) tk (pda_cons (pd_var 0) (pda_cons pd_int (pda_cons (pd_item (pd_var 2) pd_int) (pda_cons pd_int pda_nil))))) pda_nil)))
    (pdss_cons (pds_set 5 sc_law.nd (pd_callG (dg_law_cut_1 fx) (hr.mono (by decide)) tk (pda_cons (pd_callG (dg_law_drawn_4 fx) (hr.mono (by decide)) tk (pda_cons (pd_var 0) (pda_cons pd_int (pda_cons (pd_item (pd_var 2) pd_int) (pda_cons pd_int pda_nil))))) pda_nil)))
    (pdss_cons (pds_set 6 sc_law.nd (pd_mod (pd_intf (fx.free 2) (pd_item (pd_var 1) pd_int)) pd_int))
    (pdss_cons (pds_if (pdt_eqS (pd_mod (pd_intf (fx.free 2) (pd_div (dv_fn fx.1 (fx.bool 0) sc_law hr (by decide)) (pd_item (pd_var 1) pd_int) pd_int)) pd_int) pd_int)
    (pdss_one (pds_set 6 sc_law.nd (pd_mod (pd_intf (fx.free 2) (pd_item (pd_var 1) pd_int)) pd_int)))
    pdss_nil)
    (pdss_cons (pds_set 7 sc_law.nd (pd_cat (pd_lc (own := [("_law_k", 8)]) rfl sc_law.nd (pdi_rng1 (fx.free 5) (pd_var 6)) (blkOk_by (by kernel_rfl)) (tg_name (by decide)) (fun s0 H1 C0 cl0 fp0 => pg_name sc_law.nd rfl (by first | exact Or.inl rfl | exact Or.inr rfl) (by first | exact .inl rfl | exact .inr rfl)) (fun s0 H1 C0 cl0 fp0 => pdts_nil) (fun s0 H1 C0 cl0 fp0 => pd_tup (pda_cons pd_int (pda_cons pd_int pda_nil)))) (pd_callG (dg_law_pairs_2 fx) (hr.mono (by decide)) tk (pda_cons (pd_callG (dg_law_cell_2 fx) (hr.mono (by decide)) tk (pda_cons (pd_var 0) (pda_cons pd_int pda_nil))) (pda_cons pd_int pda_nil)))))
    (pdss_cons (pds_if (pdt_lt (pd_var 6) pd_int)
    (pdss_one (pds_set 7 sc_law.nd (pd_callG (dg_law_pairs_2 fx) (hr.mono (by decide)) tk (pda_cons (pd_callG (dg_law_cell_2 fx) (hr.mono (by decide)) tk (pda_cons (pd_var 0) (pda_cons pd_int pda_nil))) (pda_cons (pd_add (pd_var 6) pd_int) pda_nil)))))
    pdss_nil)
    (pdss_cons (pds_frz 7 (pds_set 9 sc_law.nd (pd_callG (dg_law_vector_1 fx) (hr.mono (by decide)) tk (pda_cons (pd_var 7) pda_nil))))
    (pdss_cons (pds_set 10 sc_law.nd (pd_bor 4 (pd_callG (dg_law_operator_1 fx) (hr.mono (by decide)) tk (pda_cons (pd_var 4) pda_nil))))
    (pdss_cons (pds_set 11 sc_law.nd (pd_bor 5 (pd_callG (dg_law_operator_1 fx) (hr.mono (by decide)) tk (pda_cons (pd_var 5) pda_nil))))
    (pdss_cons (pds_if (pdt_bor 7 (pdt_bor 4 (pdt_bor 9 (pdt_not (pdt_tru (pd_callG (dg_law_is_2 fx) (hr.mono (by decide)) tk (pda_cons (pd_meth (k := 36) (meths_cons ((mo_Operator_apply_at_3 fx).mono (by decide)) meths_nil) (hr.mono (by decide)) tk (pd_var 10) (pda_cons (pd_var 9) (pda_cons (pd_var 6) pda_nil))) (pda_cons (pd_callG (dg_law_applied_3 fx) (hr.mono (by decide)) tk (pda_cons (pd_var 4) (pda_cons (pd_var 7) (pda_cons (pd_var 6) pda_nil)))) pda_nil))))))))
    (pdss_one (pds_ret pd_bl))
    pdss_nil)
    (pdss_cons (pds_set 12 sc_law.nd (pd_bor 7 (pd_bor 5 (pd_cat (pd_lc (own := [("_law_k", 8)]) rfl sc_law.nd (pdi_rng1 (fx.free 5) (pd_var 6)) (blkOk_by (by kernel_rfl)) (tg_name (by decide)) (fun s0 H1 C0 cl0 fp0 => pg_name sc_law.nd rfl (by first | exact Or.inl rfl | exact Or.inr rfl) (by first | exact .inl rfl | exact .inr rfl)) (fun s0 H1 C0 cl0 fp0 => pdts_nil) (fun s0 H1 C0 cl0 fp0 => pd_tup (pda_cons pd_int (pda_cons pd_int pda_nil)))) (pd_lc (own := [("_law_k", 8)]) rfl sc_law.nd (pdi_rng1 (fx.free 5) (pd_len (fx.free 12) (pd_var 4))) (blkOk_by (by kernel_rfl)) (tg_name (by decide)) (fun s0 H1 C0 cl0 fp0 => pg_name sc_law.nd rfl (by first | exact Or.inl rfl | exact Or.inr rfl) (by first | exact .inl rfl | exact .inr rfl)) (fun s0 H1 C0 cl0 fp0 => pdts_nil) (fun s0 H1 C0 cl0 fp0 => pd_callG (dg_law_applied_3 fx) (hr.mono (by decide)) takes_W0 (pda_cons (pd_var 5) (pda_cons (pd_var 7) (pda_cons (pd_add (pd_var 6) (pd_var 8)) pda_nil)))))))))
    (pdss_cons (pds_set 13 sc_law.nd (pd_op (opr_or op_mulD (op_own2 (k := 36) rfl (meths_cons ((mo_Operator_mul_2 fx).mono (by decide)) meths_nil) (hr.mono (by decide)) (tbl_all (all_cons (fx.bool 1) all_nil)))) (o2_own (o2_I fun _ _ h => h)) (pd_var 10) (pd_var 11)))
    (pdss_cons (pds_if (pdt_bor 12 (pdt_bor 4 (pdt_bor 9 (pdt_not (pdt_tru (pd_callG (dg_law_is_2 fx) (hr.mono (by decide)) tk (pda_cons (pd_meth (k := 36) (meths_cons ((mo_Operator_apply_at_3 fx).mono (by decide)) meths_nil) (hr.mono (by decide)) tk (pd_var 13) (pda_cons (pd_var 9) (pda_cons (pd_var 6) pda_nil))) (pda_cons (pd_callG (dg_law_applied_3 fx) (hr.mono (by decide)) tk (pda_cons (pd_var 4) (pda_cons (pd_var 12) (pda_cons (pd_var 6) pda_nil)))) pda_nil))))))))
    (pdss_one (pds_ret pd_bl))
    pdss_nil)
    (pdss_cons (pds_if (pdt_bor 5 (pdt_bor 4 (pdt_not (pdt_tru (pd_callG (dg_law_same_2 fx) (hr.mono (by decide)) tk (pda_cons (pd_callG (dg_law_read_operator_1 fx) (hr.mono (by decide)) tk (pda_cons (pd_var 13) pda_nil)) (pda_cons (pd_callG (dg_law_after_2 fx) (hr.mono (by decide)) tk (pda_cons (pd_var 4) (pda_cons (pd_var 5) pda_nil))) pda_nil)))))))
    (pdss_one (pds_ret pd_bl))
    pdss_nil)
    (pdss_cons (pds_if (pdt_bor 5 (pdt_bor 4 (pdt_of (pdw_or (pdt_not (pdt_tru (pd_callG (dg_law_same_2 fx) (hr.mono (by decide)) tk (pda_cons (pd_callG (dg_law_read_operator_1 fx) (hr.mono (by decide)) tk (pda_cons (pd_var 10) pda_nil)) (pda_cons (pd_var 4) pda_nil))))) (pdw_or1 (pdt_not (pdt_tru (pd_callG (dg_law_same_2 fx) (hr.mono (by decide)) tk (pda_cons (pd_callG (dg_law_read_operator_1 fx) (hr.mono (by decide)) tk (pda_cons (pd_var 11) pda_nil)) (pda_cons (pd_var 5) pda_nil))))))))))
    (pdss_one (pds_ret pd_bl))
    pdss_nil)
    (pdss_one (pds_ret (pd_bor 7 (pd_bor 9 (pd_callG (dg_law_are_2 fx) (hr.mono (by decide)) tk (pda_cons (pd_var 9) (pda_cons (pd_var 7) pda_nil))))))))))))))))))))))))
end
abbrev Rw : PySem.W.OpenRow := PySem.W.OpenLaw.row PySem.Challenge.rw_certsums_k57_operator_composition
abbrev hk : PySem.W.Hook := hookQ 5 fas fns (fun K => bls.all fun b => b K)
def ob (s : PySem.W.SharedT) : AlP := seeQ 5 fas fns (fun K => bls.all fun b => b K) (HandSHeadRun.getT s)
theorem ob_eq (s : PySem.W.SharedT) : ob s = hk.obs s.abs := seeQ_eq (HandSHeadRun.getT_eq s)
theorem run (w : World) : HandSHeadRun.RunEqI Rw (PySem.W.view Rw.prog [0, 42]) hk ob 20000 [("_wall" : Str), ("__name__" : Str), ("SummationError" : Str), ("DivisionByZero" : Str), ("Fraction" : Str), ("trimmed" : Str), ("content" : Str), ("Poly" : Str), ("Operator" : Str), ("_law_cell" : Str), ("_law_digits" : Str), ("_law_trim" : Str), ("_law_mul" : Str), ("_law_sum" : Str), ("_law_scale" : Str), ("_law_at" : Str), ("_law_shift" : Str), ("_law_move" : Str), ("_law_times" : Str), ("_law_plus" : Str), ("_law_minus" : Str), ("_law_alike" : Str), ("_law_poly" : Str), ("_law_is_whole" : Str), ("_law_read" : Str), ("_law_draw" : Str), ("_law_cut" : Str), ("_law_after" : Str), ("_law_operator" : Str), ("_law_read_operator" : Str), ("_law_same" : Str), ("_law_drawn" : Str), ("_law_pairs" : Str), ("_law_vector" : Str), ("_law_applied" : Str), ("_law_is" : Str), ("_law_are" : Str)] w := by
  unfold HandSHeadRun.RunEqI
  kernel_rfl
end G
set_option maxHeartbeats 2000000
namespace Pd
open PySem PySem.Spec L2
abbrev EV (f : FE) (ρ : PEnv) (r : Rs) : Prop := f ρ = some (.ok r)
abbrev TV (t : FT) (ρ : PEnv) (b : Bool) : Prop := t ρ = some (.ok b)
abbrev AV (a : FA) (ρ : PEnv) (ds : List Dt) : Prop := a ρ = some (.ok ds)
abbrev IV (g : FIt) (ρ : PEnv) (ds : List Dt) : Prop := g ρ = some (.ok ds)
abbrev OV (o : FO) (ρ : PEnv) (i : Option Int) : Prop := o ρ = some (.ok i)
inductive Kd where
  | own | bor | fro
def kR : Kd → List Dt → Rs
  | .own, ds => .own ds
  | .bor, ds => .bor ds
  | .fro, ds => .fro (.lst ds)
def kV : Kd → Kd
  | .own => .bor
  | .bor => .bor
  | .fro => .fro
theorem kR_asL (k : Kd) (ds : List Dt) : asL (kR k ds) = some ds := by cases k <;> rfl
abbrev qI (i : Int) : Dt := .int i
abbrev qB (b : Bool) : Dt := .bl b
abbrev qS (s : Str) : Dt := .str s
abbrev qN (_ : Unit) : Dt := .non
section
variable {α β γ δ : Type}
abbrev qL (e : α → Dt) (xs : List α) : Dt := .lst (xs.map e)
abbrev qV (e : α → Dt) (xs : List α) : Dt := .tup (xs.map e)
def qO (e : α → Dt) : Option α → Dt
  | none => .non
  | some a => e a
abbrev qT1 (e : α → Dt) (p : α) : Dt := .tup [e p]
abbrev qT2 (e : α → Dt) (f : β → Dt) (p : α × β) : Dt := .tup [e p.1, f p.2]
abbrev qT3 (e : α → Dt) (f : β → Dt) (g : γ → Dt) (p : α × β × γ) : Dt := .tup [e p.1, f p.2.1, g p.2.2]
abbrev qT4 (e : α → Dt) (f : β → Dt) (g : γ → Dt) (h : δ → Dt) (p : α × β × γ × δ) : Dt := .tup [e p.1, f p.2.1, g p.2.2.1, h p.2.2.2]
end
section
variable {α β : Type}
def gt [Inhabited α] (xs : List α) (i : Int) : α := (atI xs i).getD default
def inR (xs : List α) (i : Int) : Prop := -(xs.length : Int) ≤ i ∧ i < xs.length
def cutT (xs : List α) (lo hi : Option Int) : List α := (xs.drop (HT.sIx xs.length 0 lo)).take (HT.sIx xs.length xs.length hi - HT.sIx xs.length 0 lo)
def setT (xs : List α) (i : Int) (x : α) : List α := match ixN xs.length i with
  | some j => xs.set j x
  | none => xs
def repT (xs : List α) (n : Int) : List α := (List.replicate n.toNat xs).flatten
def rngN (a : Int) : Nat → List Int
  | 0 => []
  | n + 1 => a :: rngN (a + 1) n
abbrev rngT (a b : Int) : List Int := rngN a (b - a).toNat
def rngD (a : Int) : Nat → List Int
  | 0 => []
  | n + 1 => a :: rngD (a + -1) n
abbrev rngDT (a b : Int) : List Int := rngD a (a - b).toNat
theorem rngN_map (a : Int) (n : Nat) : (rngN a n).map qI = intsFrom a n := by
  induction n generalizing a with
  | zero => rfl
  | succ n ih => show _ :: _ = _ :: _; rw [ih]
theorem rngD_map (a : Int) (n : Nat) : (rngD a n).map qI = intsBy a (-1) n := by
  induction n generalizing a with
  | zero => rfl
  | succ n ih => show _ :: _ = _ :: _; rw [ih]
theorem inR_ix {xs : List α} {i : Int} (h : inR xs i) : ∃ j, ixN xs.length i = some j ∧ j < xs.length := by
  unfold inR at h
  unfold ixN
  by_cases h0 : 0 ≤ i
  · rw [if_pos h0, if_pos (by omega)]
    exact ⟨_, rfl, by omega⟩
  · rw [if_neg h0, if_pos (by omega)]
    exact ⟨_, rfl, by omega⟩
theorem at_map [Inhabited α] (e : α → Dt) {xs : List α} {i : Int} (h : inR xs i) : atI (xs.map e) i = some (e (gt xs i)) := by
  obtain ⟨j, h1, h2⟩ := inR_ix h
  unfold gt atI
  rw [List.length_map, h1]
  show (xs.map e)[j]? = some (e ((xs[j]?).getD default))
  rw [List.getElem?_map, List.getElem?_eq_getElem h2]
  rfl
theorem cut_map (e : α → Dt) (xs : List α) (lo hi : Option Int) : cutD (xs.map e) lo hi = (cutT xs lo hi).map e := by
  unfold cutD cutT
  rw [List.length_map, List.map_take, List.map_drop]
theorem rep_map (e : α → Dt) (xs : List α) (n : Int) : (List.replicate n.toNat (xs.map e)).flatten = (repT xs n).map e := by
  unfold repT
  rw [List.map_flatten, List.map_replicate]
end
section
variable {f g h : FE} {t u : FT} {ρ : PEnv} {x y z r : Rs} {a b p q : Bool} {i j : Int} {d : Dt} {ds es : List Dt} {n m : Nat} {α β : Type}
theorem ev_c : EV (eC d) ρ (.fro d) := rfl
theorem ev_fro (h : ρ[n]? = some (some (.fro d)) := by rfl) : EV (eVar n) ρ (.fro d) := by unfold EV eVar; rw [h]
theorem ev_own (h : ρ[n]? = some (some (.own ds)) := by rfl) : EV (eVar n) ρ (.bor ds) := by unfold EV eVar; rw [h]
theorem ev_e2 {gg : G2} (hf : EV f ρ x) (hg : EV g ρ y) (hh : gg x y = some (.ok z)) : EV (e2 gg f g) ρ z := by
  show bnd (f ρ) _ = _
  rw [hf, bnd_ok, hg, bnd_ok, hh]
theorem ev_e1 {gg : G1} (hf : EV f ρ x) (hh : gg x = some (.ok z)) : EV (e1 gg f) ρ z := by
  show bnd (f ρ) _ = _
  rw [hf, bnd_ok, hh]
theorem g_mul (hm : mulOk i j = true) : gMul (.fro (.int i)) (.fro (.int j)) = some (.ok (.fro (.int (i * j)))) := by
  rw [gMul_eq, hm]; rfl
theorem g_div (h0 : j ≠ 0) : gDiv (.fro (.int i)) (.fro (.int j)) = some (.ok (.fro (.int (i.fdiv j)))) := by
  rw [gDiv_eq, divOk_ne h0]; rfl
theorem g_mod (hm : j ≠ 0) : gMod (.fro (.int i)) (.fro (.int j)) = some (.ok (.fro (.int (i.fmod j)))) := by
  rw [gMod_eq, modOk_of hm]; rfl
theorem g_powl {k : Int} (hm : powOk i j = true) (e : i ^ j.toNat = k) : gPow (.fro (.int i)) (.fro (.int j)) = some (.ok (.fro (.int k))) := by
  rw [gPow_eq, hm, e]; rfl
theorem g_max : gMax (.fro (.int i)) (.fro (.int j)) = some (.ok (.fro (.int (max i j)))) := by
  rw [gMax_eq, Int.max_def]
  by_cases h1 : i < j
  · rw [if_pos h1, if_pos (by omega)]
  · rw [if_neg h1]
    by_cases h2 : i ≤ j
    · rw [if_pos h2, show i = j by omega]
    · rw [if_neg h2]
theorem g_abs : gAbs (.fro (.int i)) = some (.ok (.fro (.int (i.natAbs : Nat)))) := by
  show some (Ex.ok (Rs.fro (.int (if i < 0 then -i else i)))) = _
  have : (if i < 0 then -i else i) = (i.natAbs : Int) := by split <;> omega
  rw [this]
theorem g_gcd : gGcd (.fro (.int i)) (.fro (.int j)) = some (.ok (.fro (.int (Int.gcd i j : Nat)))) := rfl
theorem g_len {k : Kd} {e : α → Dt} {xs : List α} : gLen (kR k (xs.map e)) = some (.ok (.fro (.int xs.length))) := by
  cases k <;> simp [kR]
theorem g_lenV {e : α → Dt} {xs : List α} : gLen (.fro (.tup (xs.map e))) = some (.ok (.fro (.int xs.length))) := by simp
theorem g_list {k : Kd} : gList (kR k ds) = some (.ok (.own ds)) := by cases k <;> rfl
theorem g_tuple {k : Kd} : gTuple (kR k ds) = some (.ok (.fro (.tup ds))) := by cases k <;> rfl
theorem g_ix [Inhabited α] {k : Kd} {e : α → Dt} {xs : List α} (hi : inR xs i) : gIx (kR k (xs.map e)) (.fro (.int i)) = some (.ok (.fro (e (gt xs i)))) := by
  have := at_map e hi
  cases k
  · show (match atI (xs.map e) i with | some d => some (Ex.ok (Rs.fro d)) | none => none) = _
    rw [this]
  · simp [kR, this]
  · simp [kR, this]
theorem g_eqI : gEqS (.fro (.int i)) (.fro (.int j)) = some (.ok (.fro (.bl (decide (i = j))))) := gEqS_int ..
theorem g_neI : gNeS (.fro (.int i)) (.fro (.int j)) = some (.ok (.fro (.bl (!decide (i = j))))) := gNeS_int ..
theorem g_cat {k l : Kd} {e : α → Dt} {xs ys : List α} (h : xs.length + ys.length ≤ LINE) : gCat (kR k (xs.map e)) (kR l (ys.map e)) = some (.ok (.own ((xs ++ ys).map e))) := by
  unfold gCat
  rw [kR_asL, kR_asL]
  dsimp only
  rw [if_pos (by rw [List.length_map, List.length_map]; exact h), List.map_append]
theorem g_rep {k : Kd} {e : α → Dt} {xs : List α} (hk : k ≠ .fro) (h1 : i < 2 ^ 62 ∧ -(2 ^ 62) ≤ i) (h : xs.length * i.toNat ≤ LINE) : gRep (kR k (xs.map e)) (.fro (.int i)) = some (.ok (.own ((repT xs i).map e))) := by
  rw [← rep_map]
  cases k <;> first | exact absurd rfl hk | skip
  all_goals (unfold gRep kR asO; dsimp only; rw [if_pos ⟨h1.1, h1.2, by rw [List.length_map]; exact h⟩])
theorem g_isN {e : α → Dt} {o : Option α} (he : ∀ a, isNon (e a) = false) : gIsN (.fro (qO e o)) (.fro .non) = some (.ok (.fro (.bl o.isNone))) := by
  cases o with
  | none => rfl
  | some a => show vB (isNon (e a)) = _; rw [he]; rfl
theorem tv_b (hf : EV f ρ (.fro (.bl b))) : TV (tB f) ρ b := by
  show bnd (f ρ) _ = _
  rw [hf]; rfl
theorem tv_tru (hf : EV f ρ r) (hh : tru r = some (.ok b)) : TV (tTru f) ρ b := by
  show bnd (f ρ) _ = _
  rw [hf, bnd_ok, hh]
theorem tv_not (ht : TV t ρ a) : TV (tNot t) ρ (!a) := by
  show bnd (t ρ) _ = _
  rw [ht]; rfl
theorem tv_and (ht : TV t ρ a) (hu : a = true → TV u ρ b) : TV (tAnd t u) ρ (a && b) := by
  show bnd (t ρ) _ = _
  rw [ht, bnd_ok]
  cases a with
  | true => rw [if_pos rfl, hu rfl]; rfl
  | false => rfl
theorem tv_or (ht : TV t ρ a) (hu : a = false → TV u ρ b) : TV (tOr t u) ρ (a || b) := by
  show bnd (t ρ) _ = _
  rw [ht, bnd_ok]
  cases a with
  | true => rfl
  | false => rw [if_neg Bool.false_ne_true, hu rfl]; rfl
theorem ev_and (hf : EV f ρ (.fro (.bl a))) (hg : a = true → EV g ρ (.fro (.bl b))) : EV (eAnd f g) ρ (.fro (.bl (a && b))) := by
  show bnd (f ρ) _ = _
  rw [hf, bnd_ok, asB_bl, bnd_ok]
  cases a with
  | true => rw [if_pos rfl, hg rfl]; rfl
  | false => rfl
theorem ev_not (hf : EV f ρ (.fro (.bl a))) : EV (eNot f) ρ (.fro (.bl (!a))) := by
  show bnd (f ρ) _ = _
  rw [hf]; rfl
theorem av_nil : AV aNil ρ [] := rfl
theorem av_cons {fs : FA} (hf : EV f ρ r) (hz : frz r = some (.ok d)) (ht : AV fs ρ ds) : AV (aCons f fs) ρ (d :: ds) := by
  show bnd (f ρ) _ = _
  rw [hf, bnd_ok, hz, bnd_ok, ht]; rfl
theorem fz_k {k : Kd} (hk : k ≠ .bor) : frz (kR k ds) = some (.ok (.lst ds)) := by cases k <;> first | rfl | exact absurd rfl hk
theorem ev_call {fn : Fn} {fa : FA} (hF : fn ds = some (.ok r)) (ha : AV fa ρ ds) (hl : ds.length = n := by rfl) : EV (eCa n fn fa) ρ r := (eCa_run ha hl).trans hF
theorem ev_meth {o : Dt} {c : Nat} {fn : Fn} {gD : List Dt → List Dt} {ms : Nat → Option Fn} {fo : FE} {fa : FA} (hF : fn (gD (o :: es)) = some (.ok r)) (ho : EV fo ρ (.fro o)) (ha : AV fa ρ es) (hx : o = .ins c ds) (hm : ms c = some (mfn n gD fn)) (hl : es.length + 1 = n) : EV (eMe ms fo fa) ρ r := by
  subst hx
  show bnd (fo ρ) _ = _
  have hp : pickM ms (.fro (.ins c ds)) = some (c, ds, mfn n gD fn) := by
    unfold pickM; dsimp only; rw [hm]
  rw [ho, bnd_ok, hp]
  show bnd (fa ρ) _ = _
  rw [ha, bnd_ok]
  unfold mfn
  rw [if_pos (by rw [List.length_cons]; exact hl), hF]
theorem g_fld {c k : Nat} {mm : Nat → Option Nat} (h1 : mm c = some k) (h2 : ds[k]? = some d) : gFld mm (.fro (.ins c ds)) = some (.ok (.fro d)) := by
  unfold gFld; dsimp only; rw [h1]; dsimp only; rw [h2]
theorem g_attF {c k : Nat} {mm : Nat → Option Nat} {pr : Nat → Option Fn} (h1 : mm c = some k) (h2 : ds[k]? = some d) : gAtt mm pr (.fro (.ins c ds)) = some (.ok (.fro d)) := by
  unfold gAtt; dsimp only; rw [h1]; dsimp only; rw [h2]
theorem g_attP {x : Dt} {c : Nat} {mm : Nat → Option Nat} {pr : Nat → Option Fn} {fn : Fn} (hF : fn [x] = some (.ok r)) (hx : x = .ins c ds) (h1 : mm c = none) (h2 : pr c = some fn) : gAtt mm pr (.fro x) = some (.ok r) := by
  subst hx
  unfold gAtt; dsimp only; rw [h1]; dsimp only; rw [h2]; dsimp only; rw [hF]; rfl
theorem g_own {x d : Dt} {c : Nat} {gg : G2} {okD : Nat → Dt → Bool} {ops : Nat → Option Fn} {fn : Fn} (hF : fn [x, d] = some (.ok r)) (hx : x = .ins c ds) (h1 : ops c = some (mfn 2 (fun ds => ds) fn)) (h2 : okD c d = true) : gOwn gg okD ops (.fro x) (.fro d) = some (.ok r) := by
  subst hx
  unfold gOwn; dsimp only; rw [h1]; dsimp only; rw [h2, if_pos rfl]; unfold mfn; show okR (fn [.ins c ds, d]) = _; rw [hF]; rfl
theorem ev_tup {fs : FA} (ha : AV fs ρ ds) (hl : ds.length ≤ LINE := by decide) : EV (eTup fs) ρ (.fro (.tup ds)) := by
  show bnd (fs ρ) _ = _
  rw [ha, bnd_ok, if_pos hl]
theorem ev_lst {fs : FA} (ha : AV fs ρ ds) (hl : ds.length ≤ LINE := by decide) : EV (eLst fs) ρ (.own ds) := by
  show bnd (fs ρ) _ = _
  rw [ha, bnd_ok, if_pos hl]
theorem ov_none : OV oNone ρ none := rfl
theorem ov_some (hf : EV f ρ (.fro (.int i))) : OV (oSome f) ρ (some i) := by
  show bnd (f ρ) _ = _
  rw [hf]; rfl
theorem ev_sl {k : Kd} {e : α → Dt} {xs : List α} {lo hi : FO} {l m : Option Int} (hf : EV f ρ (kR k (xs.map e))) (h1 : OV lo ρ l) (h2 : OV hi ρ m) : EV (eSl f lo hi) ρ (.own ((cutT xs l m).map e)) := by
  show bnd (f ρ) _ = _
  rw [hf, bnd_ok, h1, bnd_ok, h2, bnd_ok, ← cut_map]
  cases k <;> rfl
theorem iv_k {k : Kd} (hf : EV f ρ (kR k ds)) (hk : k ≠ .bor) : IV (iSeq f) ρ ds := by
  show bnd (f ρ) _ = _
  rw [hf, bnd_ok, fz_k hk]; rfl
theorem iv_v (hf : EV f ρ (.fro (.tup ds))) : IV (iSeq f) ρ ds := by
  show bnd (f ρ) _ = _
  rw [hf]; rfl
theorem iv_r1 (hf : EV f ρ (.fro (.int i))) (hr : rOk i = true) : IV (iRng1 f) ρ ((rngT 0 i).map qI) := by
  rw [rngN_map]
  have := rng1_run hf hr
  rw [show (i - 0) = i by omega]
  exact this
theorem iv_rD (hf : EV f ρ (.fro (.int i))) (hg : EV g ρ (.fro (.int j))) (hr : rOk i = true) (hs : rOk j = true) : IV (iRngD f g) ρ ((rngDT i j).map qI) := by
  rw [rngD_map]
  exact rngD_run hf hg hr hs
theorem iv_revK {k : Kd} {e : α → Dt} {xs : List α} (hf : EV f ρ (kR k (xs.map e))) (hk : k ≠ .bor) : IV (iRevS f) ρ (xs.reverse.map e) := by
  show bnd (f ρ) _ = _
  rw [hf, bnd_ok, fz_k hk, bnd_ok, List.map_reverse]; rfl
theorem iv_revV {e : α → Dt} {xs : List α} (hf : EV f ρ (.fro (.tup (xs.map e)))) : IV (iRevS f) ρ (xs.reverse.map e) := by
  show bnd (f ρ) _ = _
  rw [hf, bnd_ok, frz_fro, bnd_ok, List.map_reverse]; rfl
theorem lcD_map' {ρ : PEnv} {gg : GT} {ct : FT} {elt : FE} {e : α → Dt} {e' : β → Dt} {pp : α → Bool} {F : α → β} : ∀ {xs : List α}, (∀ v, v ∈ xs → ∃ ρ1, gg (e v) ρ = some ρ1 ∧ TV ct ρ1 (pp v) ∧ (pp v = true → ∃ w, EV elt ρ1 w ∧ frz w = some (.ok (e' (F v))))) → lcD gg ct elt ρ (xs.map e) = some (((xs.filter pp).map F).map e')
  | [], _ => rfl
  | v :: xs, hh => by
    obtain ⟨ρ1, h1, h2, h3⟩ := hh v List.mem_cons_self
    have ih := lcD_map' (gg := gg) (ct := ct) (elt := elt) (e := e) (e' := e') (pp := pp) (F := F) (ρ := ρ) (xs := xs) fun w hw => hh w (List.mem_cons_of_mem _ hw)
    rw [List.map_cons]
    unfold lcD
    rw [h1]
    dsimp only
    rw [h2]
    cases hp : pp v with
    | true =>
      obtain ⟨w, h4, h5⟩ := h3 hp
      dsimp only
      rw [h4, bnd_ok, h5]
      dsimp only
      rw [ih, List.filter_cons_of_pos hp]
      rfl
    | false =>
      dsimp only
      rw [List.filter_cons_of_neg (by rw [hp]; exact Bool.false_ne_true)]
      exact ih
theorem ev_lcf {vs : List Nat} {it : FIt} {gg : GT} {ct : FT} {elt : FE} {e : α → Dt} {e' : β → Dt} {pp : α → Bool} {F : α → β} {xs : List α} (hg : IV it ρ (xs.map e)) (hl : xs.length ≤ LINE)
    (hh : ∀ v, v ∈ xs → ∃ ρ1, gg (e v) (wipeE ρ vs) = some ρ1 ∧ TV ct ρ1 (pp v) ∧ (pp v = true → ∃ w, EV elt ρ1 w ∧ frz w = some (.ok (e' (F v))))) : EV (eLc vs it gg ct elt) ρ (.own (((xs.filter pp).map F).map e')) := by
  show bnd (it ρ) _ = _
  rw [hg, bnd_ok, lcD_map' hh]
  exact if_pos (by rw [List.length_map]; exact hl)
theorem ev_lc {vs : List Nat} {it : FIt} {gg : GT} {elt : FE} {e : α → Dt} {e' : β → Dt} {F : α → β} {xs : List α} (hg : IV it ρ (xs.map e)) (hl : xs.length ≤ LINE)
    (hh : ∀ v, v ∈ xs → ∃ ρ1 w, gg (e v) (wipeE ρ vs) = some ρ1 ∧ EV elt ρ1 w ∧ frz w = some (.ok (e' (F v)))) : EV (eLc vs it gg tTrue elt) ρ (.own ((xs.map F).map e')) := by
  have := ev_lcf (pp := fun _ => true) (ct := tTrue) (vs := vs) (it := it) (gg := gg) (elt := elt) (e' := e') (F := F) hg hl fun v hv => by
    obtain ⟨ρ1, w, h1, h2, h3⟩ := hh v hv
    exact ⟨ρ1, h1, rfl, fun _ => ⟨w, h2, h3⟩⟩
  rwa [List.filter_eq_self.mpr fun _ _ => rfl] at this
end
inductive Fl (σ τ β : Type) where
  | nx (s : σ) | bk (s : τ) | ct (s : τ) | rt (r : β)
section
variable {σ τ σ' β : Type}
def RtOk (o : Option Out) (R : β → Rs → Prop) (q : β) : Prop := ∃ x, o = some (.rt x) ∧ R q x
def NxOk (o : Option Out) (E : σ → PEnv → Prop) (q : σ) : Prop := ∃ ρ', o = some (.nx ρ') ∧ E q ρ'
def FlOk (o : Option Out) (E : σ → PEnv → Prop) (B : τ → PEnv → Prop) (R : β → Rs → Prop) : Fl σ τ β → Prop
  | .nx s => ∃ ρ', o = some (.nx ρ') ∧ E s ρ'
  | .bk s => ∃ ρ', o = some (.bk ρ') ∧ B s ρ'
  | .ct s => ∃ ρ', o = some (.ct ρ') ∧ B s ρ'
  | .rt r => ∃ x, o = some (.rt x) ∧ R r x
def Fl.fin (q : Fl σ Empty β) (k : σ → β) : β := match q with
  | .nx s => k s
  | .rt r => r
def Fl.bind (q : Fl σ τ β) (k : σ → Fl σ' τ β) : Fl σ' τ β := match q with
  | .nx s => k s
  | .bk s => .bk s
  | .ct s => .ct s
  | .rt r => .rt r
@[simp] theorem Fl.fin_nx (s : σ) (k : σ → β) : (Fl.nx s : Fl σ Empty β).fin k = k s := rfl
@[simp] theorem Fl.fin_rt (r : β) (k : σ → β) : (Fl.rt r : Fl σ Empty β).fin k = r := rfl
@[simp] theorem Fl.bind_nx (s : σ) (k : σ → Fl σ' τ β) : (Fl.nx s).bind k = k s := rfl
@[simp] theorem Fl.bind_bk (s : τ) (k : σ → Fl σ' τ β) : (Fl.bk s : Fl σ τ β).bind k = .bk s := rfl
@[simp] theorem Fl.bind_ct (s : τ) (k : σ → Fl σ' τ β) : (Fl.ct s : Fl σ τ β).bind k = .ct s := rfl
@[simp] theorem Fl.bind_rt (r : β) (k : σ → Fl σ' τ β) : (Fl.rt r : Fl σ τ β).bind k = .rt r := rfl
variable {o o' : Option Out} {E : σ → PEnv → Prop} {E' : σ' → PEnv → Prop} {B : τ → PEnv → Prop} {R : β → Rs → Prop} {F G H : FS} {ρ ρ' : PEnv} {t : FT} {b : Bool}
theorem RtOk.of {q : β} (e : o = o') (h : RtOk o' R q) : RtOk o R q := e ▸ h
theorem NxOk.of {q : σ} (e : o = o') (h : NxOk o' E q) : NxOk o E q := e ▸ h
theorem FlOk.of {q : Fl σ τ β} (e : o = o') (h : FlOk o' E B R q) : FlOk o E B R q := e ▸ h
theorem NxOk.fl {q : σ} (h : NxOk o E q) : FlOk o E B R (.nx q) := let ⟨r, a, b⟩ := h; ⟨r, a, b⟩
theorem RtOk.fl {q : β} (h : RtOk o R q) : FlOk o E B R (.rt q) := h
theorem NxOk.imp {q : σ} {E2 : σ → PEnv → Prop} (h : NxOk o E q) (i : ∀ s ρ, E s ρ → E2 s ρ) : NxOk o E2 q := let ⟨r, a, b⟩ := h; ⟨r, a, i _ _ b⟩
theorem RtOk.imp {q : β} {R2 : β → Rs → Prop} (h : RtOk o R q) (i : ∀ s x, R s x → R2 s x) : RtOk o R2 q := let ⟨r, a, b⟩ := h; ⟨r, a, i _ _ b⟩
theorem FlOk.imp {q : Fl σ τ β} {E2 : σ → PEnv → Prop} {B2 : τ → PEnv → Prop} {R2 : β → Rs → Prop} (h : FlOk o E B R q) (i : ∀ s ρ, E s ρ → E2 s ρ) (j : ∀ s ρ, B s ρ → B2 s ρ) (l : ∀ s x, R s x → R2 s x) : FlOk o E2 B2 R2 q := by
  cases q with
  | nx s => obtain ⟨r, a, b⟩ := h; exact ⟨r, a, i _ _ b⟩
  | bk s => obtain ⟨r, a, b⟩ := h; exact ⟨r, a, j _ _ b⟩
  | ct s => obtain ⟨r, a, b⟩ := h; exact ⟨r, a, j _ _ b⟩
  | rt s => obtain ⟨r, a, b⟩ := h; exact ⟨r, a, l _ _ b⟩
theorem sq_nx (h : F ρ = some (.nx ρ')) : sSeq F G ρ = G ρ' := sSeq_nx h
theorem st_set {n : Nat} {f : FE} {r : Rs} {c : Cel} (h : EV f ρ r) (hc : celOf r = some c) (hρ : ρ.set n (some c) = ρ') : sSet n f ρ = some (.nx ρ') := by
  rw [sSet_run h hc, hρ]
theorem st_app {n : Nat} {f : FE} {r : Rs} {ds : List Dt} {d : Dt} (h0 : ρ[n]? = some (some (.own ds))) (h : EV f ρ r) (hz : frz r = some (.ok d)) (hl : ds.length < LINE) (hρ : ρ.set n (some (.own (ds ++ [d]))) = ρ') : sApp n f ρ = some (.nx ρ') := by
  unfold sApp
  rw [h0]
  dsimp only
  rw [h, bndS_ok, hz, bndS_ok, if_pos hl, hρ]
theorem st_ix {n : Nat} {α : Type} {e : α → Dt} {fk f : FE} {r : Rs} {xs : List α} {x : α} {i : Int} (h0 : ρ[n]? = some (some (.own (xs.map e)))) (h : EV f ρ r) (hz : frz r = some (.ok (e x))) (hk : EV fk ρ (.fro (.int i))) (hi : inR xs i) (hρ : ρ.set n (some (.own ((setT xs i x).map e))) = ρ') : sSetIx n fk f ρ = some (.nx ρ') := by
  obtain ⟨j, h1, h2⟩ := inR_ix hi
  unfold sSetIx
  rw [h0]
  dsimp only
  rw [h, bndS_ok, hz, bndS_ok, hk, bndS_ok, asI_int, bndS_ok, List.length_map, h1, ← hρ]
  unfold setT
  rw [h1, List.map_set]
theorem st_pop {n : Nat} {α : Type} {e : α → Dt} {xs : List α} (h0 : ρ[n]? = some (some (.own (xs.map e)))) (hi : xs ≠ []) (hρ : ρ.set n (some (.own (xs.dropLast.map e))) = ρ') : sPop n ρ = some (.nx ρ') := by
  unfold sPop
  rw [h0]
  dsimp only
  rw [if_neg (by simpa using hi), ← hρ, List.map_dropLast]
theorem st_aug {n : Nat} {gg : G2} {f : FE} {d : Dt} {r y : Rs} {c : Cel} (h0 : ρ[n]? = some (some (.fro d))) (h : EV f ρ r) (h1 : gg (.fro d) r = some (.ok y)) (hc : celOf y = some c) (hρ : ρ.set n (some c) = ρ') : sAug gg n f ρ = some (.nx ρ') := by
  unfold sAug
  rw [h0]
  dsimp only
  rw [h, bndS_ok, h1, bndS_ok, hc, ← hρ]
theorem st_fld {i c j : Nat} {f : FE} {r : Rs} {d : Dt} {ds : List Dt} (h0 : ρ[i]? = some (some (.mk c ds))) (h : EV f ρ r) (hz : frz r = some (.ok d)) (hl : ds.length = j) (hρ : ρ.set i (some (.mk c (ds ++ [d]))) = ρ') : sFld i c j f ρ = some (.nx ρ') := by
  unfold sFld
  rw [h, bndS_ok, hz, bndS_ok, h0]
  dsimp only
  rw [if_pos ⟨rfl, hl⟩, hρ]
theorem fz_own {i : Nat} {ds : List Dt} {o : Option Out} (h0 : ρ[i]? = some (some (.own ds))) (hρ : ρ.set i (some (.fro (.lst ds))) = ρ') (h : F ρ' = o) : sFrz i F ρ = o := by
  unfold sFrz; rw [h0]; dsimp only; rw [hρ, h]
theorem fq_own {i : Nat} {ds : List Dt} (h0 : ρ[i]? = some (some (.own ds))) (hρ : ρ.set i (some (.fro (.lst ds))) = ρ') : sFrz i F ρ = F ρ' := fz_own h0 hρ rfl
theorem sqi_f {t : FT} {F G H : FS} (h : TV t ρ false) : sSeq (sIf t F G) H ρ = sSeq G H ρ := by unfold sSeq; rw [sIf_f h]
theorem sq_of (e : F ρ = H ρ') : sSeq F G ρ = sSeq H G ρ' := by unfold sSeq; rw [e]
theorem rt_ret {f : FE} {r : Rs} {q : β} (h : EV f ρ r) (hR : R q r) (hr : ∀ ds, r ≠ .bor ds) : RtOk (sRet f ρ) R q := by
  refine ⟨r, ?_, hR⟩
  show bndS ρ (f ρ) _ = _
  rw [h, bndS_ok]
  cases r with
  | bor ds => exact absurd rfl (hr ds)
  | fro d => rfl
  | own ds => rfl
theorem rt_retF {i : Nat} {d : Dt} {q : β} (h : ρ[i]? = some (some (.fro d))) (hR : R q (.fro d)) : RtOk (sRetV i ρ) R q := ⟨_, by unfold sRetV; rw [h], hR⟩
theorem rt_retO {i : Nat} {ds : List Dt} {q : β} (h : ρ[i]? = some (some (.own ds))) (hR : R q (.own ds)) : RtOk (sRetV i ρ) R q := ⟨_, by unfold sRetV; rw [h], hR⟩
theorem nx_next {q : σ} (h : E q ρ) : NxOk (sNext ρ) E q := ⟨ρ, rfl, h⟩
theorem nx_st {q : σ} (e : o = some (.nx ρ')) (h : E q ρ') : NxOk o E q := ⟨ρ', e, h⟩
theorem nx_if {x y : σ} (ht : TV t ρ b) (ha : b = true → NxOk (F ρ) E x) (hb : b = false → NxOk (G ρ) E y) : NxOk (sIf t F G ρ) E (if b then x else y) := by
  cases b with
  | true => exact NxOk.of (sIf_t ht) (ha rfl)
  | false => exact NxOk.of (sIf_f ht) (hb rfl)
theorem fl_if {x y : Fl σ τ β} (ht : TV t ρ b) (ha : b = true → FlOk (F ρ) E B R x) (hb : b = false → FlOk (G ρ) E B R y) : FlOk (sIf t F G ρ) E B R (if b then x else y) := by
  cases b with
  | true => exact FlOk.of (sIf_t ht) (ha rfl)
  | false => exact FlOk.of (sIf_f ht) (hb rfl)
theorem rt_sif {x y : β} (ht : TV t ρ b) (ha : b = true → RtOk (sSeq F H ρ) R x) (hb : b = false → RtOk (sSeq G H ρ) R y) : RtOk (sSeq (sIf t F G) H ρ) R (if b then x else y) := by
  cases b with
  | true => exact RtOk.of (sq_of (sIf_t ht)) (ha rfl)
  | false => exact RtOk.of (sq_of (sIf_f ht)) (hb rfl)
theorem rt_seq {x : β} (h : RtOk (F ρ) R x) : RtOk (sSeq F H ρ) R x := let ⟨r, a, b⟩ := h; ⟨r, sSeq_rt a, b⟩
theorem sq_N {P : Option Out → Prop} {q : σ} (h : NxOk (F ρ) E q) (k : ∀ ρ', E q ρ' → P (H ρ')) : P (sSeq F H ρ) := by
  obtain ⟨ρ', a, b⟩ := h
  rw [sSeq_nx a]
  exact k ρ' b
theorem sq_XR {B0 : Empty → PEnv → Prop} {q : Fl σ Empty β} {k : σ → β} (h : FlOk (F ρ) E B0 R q) (hk : ∀ s ρ', E s ρ' → q = .nx s → RtOk (H ρ') R (k s)) : RtOk (sSeq F H ρ) R (q.fin k) := by
  cases q with
  | nx s =>
    obtain ⟨ρ', a, c⟩ := h
    exact RtOk.of (sSeq_nx a) (hk s ρ' c rfl)
  | bk s => exact nomatch s
  | ct s => exact nomatch s
  | rt r => exact rt_seq h
end
section
variable {σ τ α β : Type} {E : σ → PEnv → Prop} {B : τ → PEnv → Prop} {R : β → Rs → Prop} {body : FS} {gg : GT} {e : α → Dt} {t : FT} {ρ : PEnv}
def forV (V : σ → α → Prop) (f : σ → α → σ) : List α → σ → Prop
  | [], _ => True
  | x :: xs, s => V s x ∧ forV V f xs (f s x)
def forX (f : σ → α → Fl σ σ β) : List α → σ → Fl σ τ β
  | [], s => .nx s
  | x :: xs, s => match f s x with
    | .nx s' => forX f xs s'
    | .ct s' => forX f xs s'
    | .bk s' => .nx s'
    | .rt r => .rt r
def forVX (V : σ → α → Prop) (f : σ → α → Fl σ σ β) : List α → σ → Prop
  | [], _ => True
  | x :: xs, s => V s x ∧ (match f s x with
    | .nx s' => forVX V f xs s'
    | .ct s' => forVX V f xs s'
    | _ => True)
theorem for_N {V : σ → α → Prop} {f : σ → α → σ} (st : ∀ s x ρ, E s ρ → V s x → ∃ ρ1, gg (e x) ρ = some ρ1 ∧ NxOk (body ρ1) E (f s x)) : ∀ (xs : List α) (s : σ) (ρ : PEnv), E s ρ → forV V f xs s → NxOk (forD gg body (xs.map e) ρ) E (xs.foldl f s)
  | [], s, ρ, h, _ => ⟨ρ, rfl, h⟩
  | x :: xs, s, ρ, h, v => by
    obtain ⟨ρ1, h1, ρ2, h2, h3⟩ := st s x ρ h v.1
    refine NxOk.of ?_ (for_N st xs (f s x) ρ2 h3 v.2)
    show (match gg (e x) ρ with | none => none | some ρ1 => _) = _
    rw [h1]
    dsimp only
    rw [h2]
theorem for_X {V : σ → α → Prop} {f : σ → α → Fl σ σ β} (st : ∀ s x ρ, E s ρ → V s x → ∃ ρ1, gg (e x) ρ = some ρ1 ∧ FlOk (body ρ1) E E R (f s x)) : ∀ (xs : List α) (s : σ) (ρ : PEnv), E s ρ → forVX V f xs s → FlOk (forD gg body (xs.map e) ρ) E B R (forX f xs s)
  | [], s, ρ, h, _ => ⟨ρ, rfl, h⟩
  | x :: xs, s, ρ, h, v => by
    obtain ⟨ρ1, h1, h2⟩ := st s x ρ h v.1
    have v2 := v.2
    unfold forX
    generalize f s x = q at h2 v2
    rw [List.map_cons]
    cases q with
    | nx s' =>
      obtain ⟨ρ2, h3, h4⟩ := h2
      refine FlOk.of ?_ (for_X st xs s' ρ2 h4 v2)
      show (match gg (e x) ρ with | none => none | some ρ1 => _) = _
      rw [h1]
      dsimp only
      rw [h3]
    | ct s' =>
      obtain ⟨ρ2, h3, h4⟩ := h2
      refine FlOk.of ?_ (for_X st xs s' ρ2 h4 v2)
      show (match gg (e x) ρ with | none => none | some ρ1 => _) = _
      rw [h1]
      dsimp only
      rw [h3]
    | bk s' =>
      obtain ⟨ρ2, h3, h4⟩ := h2
      refine ⟨ρ2, ?_, h4⟩
      show (match gg (e x) ρ with | none => none | some ρ1 => _) = _
      rw [h1]
      dsimp only
      rw [h3]
    | rt r =>
      obtain ⟨x', h3, h4⟩ := h2
      refine ⟨x', ?_, h4⟩
      show (match gg (e x) ρ with | none => none | some ρ1 => _) = _
      rw [h1]
      dsimp only
      rw [h3]
theorem sfor_eq {it : FIt} {ds : List Dt} (h : IV it ρ ds) : sFor it gg body ρ = forD gg body ds ρ := for_run h
theorem forV_true {f : σ → α → σ} : ∀ (xs : List α) (s : σ), forV (fun _ _ => True) f xs s
  | [], _ => trivial
  | _ :: xs, _ => ⟨trivial, forV_true xs _⟩
theorem forVX_true {f : σ → α → Fl σ σ β} : ∀ (xs : List α) (s : σ), forVX (fun _ _ => True) f xs s
  | [], _ => trivial
  | x :: xs, s => by
    refine ⟨trivial, ?_⟩
    split
    · exact forVX_true xs _
    · exact forVX_true xs _
    · trivial
def whN (t : σ → Bool) (Vt : σ → Prop) (f : σ → σ) (V : σ → Prop) : Nat → σ → Prop
  | 0, s => Vt s ∧ t s = false
  | n + 1, s => Vt s ∧ t s = true ∧ V s ∧ whN t Vt f V n (f s)
def whV (t : σ → Bool) (Vt : σ → Prop) (f : σ → σ) (V : σ → Prop) (s : σ) : Prop := ∃ n, whN t Vt f V n s
def itN (f : σ → σ) : Nat → σ → σ
  | 0, s => s
  | n + 1, s => itN f n (f s)
def whT (t : σ → Bool) (f : σ → σ) : Nat → σ → Prop
  | 0, s => t s = false
  | n + 1, s => t s = true ∧ whT t f n (f s)
open Classical in
noncomputable def wh (t : σ → Bool) (f : σ → σ) (s : σ) : σ := if h : ∃ n, whT t f n s then itN f (Classical.choose h) s else s
theorem whT_uniq {t : σ → Bool} {f : σ → σ} : ∀ {n m : Nat} {s : σ}, whT t f n s → whT t f m s → n = m
  | 0, 0, _, _, _ => rfl
  | 0, m + 1, s, h, k => by have := k.1; rw [show t s = false from h] at this; cases this
  | n + 1, 0, s, h, k => by have := h.1; rw [show t s = false from k] at this; cases this
  | n + 1, m + 1, s, h, k => by rw [whT_uniq h.2 k.2]
theorem wh_at {t : σ → Bool} {f : σ → σ} {n : Nat} {s : σ} (h : whT t f n s) : wh t f s = itN f n s := by
  unfold wh
  have h' : ∃ n, whT t f n s := ⟨n, h⟩
  rw [dif_pos h', whT_uniq (Classical.choose_spec h') h]
theorem whN_T {t : σ → Bool} {Vt V : σ → Prop} {f : σ → σ} : ∀ {n : Nat} {s : σ}, whN t Vt f V n s → whT t f n s
  | 0, _, h => h.2
  | _ + 1, _, h => ⟨h.2.1, whN_T h.2.2.2⟩
theorem while_go {t' : σ → Bool} {Vt V : σ → Prop} {f : σ → σ} (ht : ∀ s ρ, E s ρ → Vt s → TV t ρ (t' s)) (st : ∀ s ρ, E s ρ → V s → t' s = true → NxOk (body ρ) E (f s)) : ∀ (n : Nat) (s : σ) (ρ : PEnv), E s ρ → whN t' Vt f V n s → ∃ m ρ', whileD t body m ρ = some (.nx ρ') ∧ E (itN f n s) ρ'
  | 0, s, ρ, h, v => ⟨1, ρ, while_end (by have := ht s ρ h v.1; rw [v.2] at this; exact this), h⟩
  | n + 1, s, ρ, h, v => by
    obtain ⟨ρ2, h2, h3⟩ := st s ρ h v.2.2.1 v.2.1
    obtain ⟨m, ρ', h4, h5⟩ := while_go ht st n (f s) ρ2 h3 v.2.2.2
    exact ⟨m + 1, ρ', while_step (by have := ht s ρ h v.1; rw [v.2.1] at this; exact this) h2 h4, h5⟩
theorem while_N {t' : σ → Bool} {Vt V : σ → Prop} {f : σ → σ} (ht : ∀ s ρ, E s ρ → Vt s → TV t ρ (t' s)) (st : ∀ s ρ, E s ρ → V s → t' s = true → NxOk (body ρ) E (f s)) {s : σ} {ρ : PEnv} (h : E s ρ) (v : whV t' Vt f V s) : NxOk (sWhile t body ρ) E (wh t' f s) := by
  obtain ⟨n, v⟩ := v
  obtain ⟨m, ρ', h1, h2⟩ := while_go ht st n s ρ h v
  rw [wh_at (whN_T v)]
  exact ⟨ρ', sWhile_of h1, h2⟩
end
def Kd.of : M Rs → Kd
  | some (.ok (.own _)) => .own
  | _ => .fro
section
variable {β σ : Type} {F : FS} {R : β → Rs → Prop} {args : List Dt}
theorem fn_rt {np nl : Nat} {q : β} (h : RtOk (F (args.map (fun d => some (.fro d)) ++ List.replicate nl none)) R q) (hl : args.length = np := by rfl) : ∃ r, fnD np nl F args = some (.ok r) ∧ R q r := by
  obtain ⟨x, a, b⟩ := h
  exact ⟨x, by rw [fnD_run hl, a]; rfl, b⟩
theorem fn_F {α : Type} {e : α → Dt} {np nl : Nat} {q : α} (h : RtOk (F (args.map (fun d => some (.fro d)) ++ List.replicate nl none)) (fun r x => x = .fro (e r)) q) (hl : args.length = np := by rfl) : fnD np nl F args = some (.ok (.fro (e q))) := by
  obtain ⟨x, a, b⟩ := fn_rt h hl
  rw [a, b]
theorem fn_O {α : Type} {e : α → Dt} {np nl : Nat} {q : List α} (h : RtOk (F (args.map (fun d => some (.fro d)) ++ List.replicate nl none)) (fun r x => x = .own (r.map e)) q) (hl : args.length = np := by rfl) : fnD np nl F args = some (.ok (.own (q.map e))) := by
  obtain ⟨x, a, b⟩ := fn_rt h hl
  rw [a, b]
theorem fn_I {c nf np nl : Nat} {E : σ → PEnv → Prop} {fs : List Dt} {q : σ} (h : NxOk (F (some (.mk c []) :: (args.map (fun d => some (.fro d)) ++ List.replicate nl none))) E q) (he : ∀ ρ, E q ρ → ρ[0]? = some (some (.mk c fs))) (hn : fs.length = nf := by rfl) (hl : args.length = np := by rfl) : mkD c (fnI c nf np nl F) args = some (.ok (.fro (.ins c fs))) := by
  obtain ⟨ρ', a, b⟩ := h
  unfold mkD fnI
  rw [if_pos hl, a]
  unfold outI
  dsimp only
  rw [he ρ' b]
  dsimp only
  rw [if_pos ⟨rfl, hn⟩]
  rfl
end
end Pd
set_option maxHeartbeats 2000000
namespace Pd
open PySem PySem.Spec L2
instance : Inhabited PySem.Str := ⟨⟨#[]⟩⟩
structure Fr where
  num : Int
  den : Int
  deriving Inhabited, DecidableEq
structure Po where
  coefs : List Int
  den : Int
  deriving Inhabited, DecidableEq
structure Po2 where
  rows : List Po
  deriving Inhabited, DecidableEq
structure Qt where
  num : Po
  den : Po
  deriving Inhabited, DecidableEq
structure Tm where
  start : Int
  first : Fr
  ratio : Qt
  deriving Inhabited, DecidableEq
structure Bs where
  weight : Po2
  base : Fr
  choose : Int
  rise : Int
  central : Int
  deriving Inhabited, DecidableEq
structure Opr where
  coefs : List Po
  deriving Inhabited, DecidableEq
structure Rw where
  operator : Opr
  initial : List Fr
  deriving Inhabited, DecidableEq
abbrev qFr (a : Fr) : Dt := .ins 20 [.int a.num, .int a.den]
abbrev qPo (a : Po) : Dt := .ins 21 [qV qI a.coefs, .int a.den]
abbrev qPo2 (a : Po2) : Dt := .ins 22 [qV qPo a.rows]
abbrev qQt (a : Qt) : Dt := .ins 23 [qPo a.num, qPo a.den]
abbrev qTm (a : Tm) : Dt := .ins 24 [.int a.start, qFr a.first, qQt a.ratio]
abbrev qBs (a : Bs) : Dt := .ins 25 [qPo2 a.weight, qFr a.base, .int a.choose, .int a.rise, .int a.central]
abbrev qOpr (a : Opr) : Dt := .ins 26 [qV qPo a.coefs]
abbrev qRw (a : Rw) : Dt := .ins 27 [qOpr a.operator, qV qFr a.initial]
abbrev qT0 (_ : Unit) : Dt := .tup []
section
variable {σ τ σ' β α : Type} {o : Option Out} {E : σ → PEnv → Prop} {E' : σ' → PEnv → Prop} {B : τ → PEnv → Prop} {R : β → Rs → Prop} {F : FS} {ρ ρ' : PEnv} {t : FT} {b : Bool} {args : List Dt}
def Fl.map (q : Fl σ τ β) (f : σ → σ') : Fl σ' τ β := match q with
  | .nx s => .nx (f s)
  | .bk s => .bk s
  | .ct s => .ct s
  | .rt r => .rt r
@[simp] theorem Fl.map_nx (s : σ) (f : σ → σ') : (Fl.nx s : Fl σ τ β).map f = .nx (f s) := rfl
@[simp] theorem Fl.map_rt (s : β) (f : σ → σ') : (Fl.rt s : Fl σ τ β).map f = .rt s := rfl
theorem NxOk.map {q : σ} {f : σ → σ'} (h : NxOk o E q) (i : ∀ s ρ, E s ρ → E' (f s) ρ) : NxOk o E' (f q) := let ⟨r, a, b⟩ := h; ⟨r, a, i _ _ b⟩
theorem FlOk.map {q : Fl σ τ β} {f : σ → σ'} (h : FlOk o E B R q) (i : ∀ s ρ, E s ρ → E' (f s) ρ) : FlOk o E' B R (q.map f) := by
  cases q with
  | nx s => obtain ⟨r, a, b⟩ := h; exact ⟨r, a, i _ _ b⟩
  | bk s => exact h
  | ct s => exact h
  | rt s => exact h
theorem sq_NR {G H : FS} {q : σ} {x : β} (h : NxOk (G ρ) E q) (k : ∀ ρ', E q ρ' → RtOk (H ρ') R x) : RtOk (sSeq G H ρ) R x := sq_N (P := fun o => RtOk o R x) h k
theorem sq_NN {G H : FS} {q : σ} {x : σ'} (h : NxOk (G ρ) E q) (k : ∀ ρ', E q ρ' → NxOk (H ρ') E' x) : NxOk (sSeq G H ρ) E' x := sq_N (P := fun o => NxOk o E' x) h k
theorem tv_eq (h : TV t ρ b) (e : b = false) : TV t ρ false := e ▸ h
theorem st_appT {n : Nat} {f : FE} {r : Rs} {e : α → Dt} {xs : List α} {x : α} (h0 : ρ[n]? = some (some (.own (xs.map e)))) (h : EV f ρ r) (hz : frz r = some (.ok (e x))) (hl : xs.length < LINE) (hρ : ρ.set n (some (.own ((xs ++ [x]).map e))) = ρ') : sApp n f ρ = some (.nx ρ') := by
  rw [List.map_append, List.map_cons, List.map_nil] at hρ
  exact st_app h0 h hz (by rw [List.length_map]; exact hl) hρ
end
end Pd
set_option maxHeartbeats 2000000
namespace Pd
open PySem PySem.Spec L2
section
variable {α β : Type} {f g : FE} {ρ : PEnv} {i j : Int} {ds es : List Dt} {r : Rs} {n m : Nat}
def enN (i : Nat) : List α → List (Int × α)
  | [] => []
  | x :: xs => ((i : Int), x) :: enN (i + 1) xs
abbrev enT (xs : List α) : List (Int × α) := enN 0 xs
theorem enN_map (e : α → Dt) (i : Nat) (xs : List α) : enD i (xs.map e) = (enN i xs).map (qT2 qI e) := by
  induction xs generalizing i with
  | nil => rfl
  | cons x xs ih => show _ :: _ = _ :: _; rw [ih]
theorem zip_map (e : α → Dt) (e' : β → Dt) : ∀ (xs : List α) (ys : List β), zipD (xs.map e) (ys.map e') = (xs.zip ys).map (qT2 e e')
  | [], _ => rfl
  | _ :: _, [] => rfl
  | x :: xs, y :: ys => by show _ :: _ = _ :: _; rw [zip_map e e' xs ys]; rfl
theorem iv_enV {e : α → Dt} {xs : List α} (hf : EV f ρ (.fro (.tup (xs.map e)))) : IV (iEnS f) ρ ((enT xs).map (qT2 qI e)) := by
  show bnd (f ρ) _ = _
  rw [hf, bnd_ok, frz_fro, bnd_ok, ← enN_map]; rfl
theorem iv_zip {k l : Kd} {e : α → Dt} {e' : β → Dt} {xs : List α} {ys : List β} (hf : EV f ρ (kR k (xs.map e))) (hg : EV g ρ (kR l (ys.map e'))) (hk : k ≠ .bor) (hl : l ≠ .bor) : IV (iZipS f g) ρ ((xs.zip ys).map (qT2 e e')) := by
  show bnd (f ρ) _ = _
  rw [hf, bnd_ok, fz_k hk, bnd_ok, hg, bnd_ok, fz_k hl, bnd_ok, ← zip_map]; rfl
class PyE (e : α → Dt) where
  py : α → PyData
  dep : Nat
  ok : ∀ a, pyD (e a) = some (py a)
  lay : ∀ a, (py a).canLay0 = true
  le : ∀ a, (py a).depth ≤ dep
  eq : ∀ a b, PyData.eqv (py a) (py b) = true ↔ a = b
instance : PyE qI := ⟨.int, 0, fun _ => by simp [pyD], fun _ => by simp [PyData.canLay0], fun _ => by simp [PyData.depth], fun a b => by simp [PyData.eqv]⟩
instance : PyE qB := ⟨.bool, 0, fun _ => by simp [pyD], fun _ => by simp [PyData.canLay0], fun _ => by simp [PyData.depth], fun a b => by simp [PyData.eqv]⟩
instance : PyE qN := ⟨fun _ => .none, 0, fun _ => by simp [pyD], fun _ => by simp [PyData.canLay0], fun _ => by simp [PyData.depth], fun a b => by simp [PyData.eqv]⟩
theorem pyDs_map (e : α → Dt) [P : PyE e] (xs : List α) : pyDs (xs.map e) = some (xs.map P.py) := by
  induction xs with
  | nil => simp [pyDs]
  | cons x xs ih => simp only [List.map_cons, pyDs, P.ok x, ih]
theorem lay_map (e : α → Dt) [P : PyE e] (xs : List α) : PyData.canLayAll0 (xs.map P.py) = true := by
  induction xs with
  | nil => simp [PyData.canLayAll0]
  | cons x xs ih => simp only [List.map_cons, PyData.canLayAll0, P.lay x, ih, Bool.and_self]
theorem dep_map (e : α → Dt) [P : PyE e] (xs : List α) : PyData.depthAll (xs.map P.py) ≤ P.dep := by
  induction xs with
  | nil => simp [PyData.depthAll]
  | cons x xs ih =>
    simp only [List.map_cons, PyData.depthAll]
    have := P.le x
    omega
theorem eq_map (e : α → Dt) [P : PyE e] (xs ys : List α) : PyData.eqvAll (xs.map P.py) (ys.map P.py) = true ↔ xs = ys := by
  induction xs generalizing ys with
  | nil => cases ys <;> simp [PyData.eqvAll]
  | cons x xs ih =>
    cases ys with
    | nil => simp [PyData.eqvAll]
    | cons y ys => simp only [List.map_cons, PyData.eqvAll, Bool.and_eq_true, P.eq, ih, List.cons.injEq]
instance (e : α → Dt) [P : PyE e] : PyE (qL e) := ⟨fun xs => .list (xs.map P.py), P.dep + 1, fun xs => by simp [pyD, pyDs_map], fun xs => by simp only [PyData.canLay0]; exact lay_map e xs, fun xs => by simp only [PyData.depth]; have := dep_map e xs; omega, fun a b => by simp only [PyData.eqv]; exact eq_map e a b⟩
instance (e : α → Dt) [P : PyE e] : PyE (qV e) := ⟨fun xs => .tuple (xs.map P.py), P.dep + 1, fun xs => by simp [pyD, pyDs_map], fun xs => by simp only [PyData.canLay0]; exact lay_map e xs, fun xs => by simp only [PyData.depth]; have := dep_map e xs; omega, fun a b => by simp only [PyData.eqv]; exact eq_map e a b⟩
instance (e : α → Dt) (e' : β → Dt) [P : PyE e] [Q : PyE e'] : PyE (qT2 e e') := ⟨fun p => .tuple [P.py p.1, Q.py p.2], max P.dep Q.dep + 1, fun p => by simp [pyD, pyDs, P.ok, Q.ok], fun p => by simp [PyData.canLay0, PyData.canLayAll0, P.lay, Q.lay],
  fun p => by simp only [PyData.depth, PyData.depthAll]; have := P.le p.1; have := Q.le p.2; omega, fun a b => by simp only [PyData.eqv, PyData.eqvAll, Bool.and_eq_true, P.eq, Q.eq, Bool.and_true]; exact ⟨fun h => Prod.ext h.1 h.2, fun h => by rw [h]; exact ⟨rfl, rfl⟩⟩⟩
theorem shp (e : α → Dt) [P : PyE e] (hd : P.dep ≤ 64) (a : α) : SeqAt.shaped (P.py a) = true := by
  unfold SeqAt.shaped
  rw [P.lay a, Bool.true_and]
  exact decide_eq_true (Nat.le_trans (P.le a) hd)
theorem eqDt_at {e : α → Dt} [P : PyE e] [DecidableEq α] (hd : P.dep ≤ 64) {x y : Rs} {a b : α} (hx : pyR x = some (P.py a)) (hy : pyR y = some (P.py b)) : eqDt x y = some (decide (a = b)) := by
  unfold eqDt
  rw [hx, hy]
  dsimp only
  rw [if_pos ⟨shp e hd a, shp e hd b⟩]
  congr 1
  rw [Bool.eq_iff_iff, decide_eq_true_eq]
  exact P.eq a b
theorem pyR_k {k : Kd} {e : α → Dt} [P : PyE e] {xs : List α} : pyR (kR k (xs.map e)) = some (PyE.py (qL e) xs) := by
  cases k <;> simp [kR, pyR, pyD, pyDs_map] <;> rfl
theorem g_eqK {k l : Kd} {e : α → Dt} [P : PyE e] [DecidableEq α] {xs ys : List α} (hd : P.dep ≤ 63 := by decide) : gEqD (kR k (xs.map e)) (kR l (ys.map e)) = some (.ok (.fro (.bl (decide (xs = ys))))) := by
  unfold gEqD
  rw [eqDt_at (e := qL e) (Nat.succ_le_succ hd) pyR_k pyR_k]
theorem g_inK {k : Kd} {e : α → Dt} [P : PyE e] [DecidableEq α] {a : α} {xs : List α} (hd : P.dep ≤ 63 := by decide) : gInD (.fro (e a)) (kR k (xs.map e)) = some (.ok (.fro (.bl (decide (a ∈ xs))))) := by
  unfold gInD
  rw [show pyR (.fro (e a)) = some (P.py a) from P.ok a, pyR_k]
  show (if SeqAt.shaped (P.py a) = true ∧ SeqAt.shaped (.list (xs.map P.py)) = true then _ else none) = _
  rw [if_pos ⟨shp e (by omega) a, shp (qL e) (Nat.succ_le_succ hd) xs⟩]
  have : ((xs.map P.py).any fun z => PyData.eqv z (P.py a)) = decide (a ∈ xs) := by
    rw [Bool.eq_iff_iff, decide_eq_true_eq, List.any_eq_true]
    constructor
    · rintro ⟨z, hz, h⟩
      obtain ⟨y, hy, rfl⟩ := List.mem_map.mp hz
      rw [(P.eq y a).mp h] at hy
      exact hy
    · intro h
      exact ⟨_, List.mem_map_of_mem h, (P.eq a a).mpr rfl⟩
  rw [this]
end
end Pd
namespace Pd
open PySem PySem.Spec L2
section
variable {f g : FE} {t u : FT} {ρ : PEnv} {a : Bool} {α : Type}
theorem ev_o [Inhabited α] {e : α → Dt} {o : Option α} (hf : EV f ρ (.fro (qO e o))) (ho : o.isSome = true) : EV f ρ (.fro (e (o.getD default))) := by
  cases o with
  | none => cases ho
  | some x => exact hf
end
end Pd
set_option maxHeartbeats 2000000
namespace Pd
open PySem PySem.Spec L2
section
variable {f g : FE} {fa : FA} {t : FT} {fn : Fn} {F G H : FS} {ρ ρ' : PEnv} {c n np nl i : Nat} {ds es args : List Dt} {b : Bool} {r : Rs} {hit res : Nat → Option Bool}
end
end Pd
set_option maxHeartbeats 2000000
namespace Pd
open PySem PySem.Spec L2
class NoL {α : Type} (e : α → Dt) : Prop where
  h : ∀ a, noL (e a) = true
theorem noLs_map {α : Type} {e : α → Dt} [n : NoL e] : ∀ xs : List α, noLs (xs.map e) = true
  | [] => rfl
  | x :: xs => by
    show (noL (e x) && noLs (xs.map e)) = true
    rw [n.h, noLs_map xs]; rfl
instance : NoL qI := ⟨fun _ => rfl⟩
instance : NoL qB := ⟨fun _ => rfl⟩
instance : NoL qS := ⟨fun _ => rfl⟩
instance : NoL qN := ⟨fun _ => rfl⟩
instance : NoL qT0 := ⟨fun _ => rfl⟩
section
variable {α β γ δ : Type} {e : α → Dt} {f : β → Dt} {g : γ → Dt} {h : δ → Dt}
instance [NoL e] : NoL (qV e) := ⟨fun xs => noLs_map xs⟩
instance [n : NoL e] : NoL (qO e) := ⟨fun o => by
  cases o with
  | none => rfl
  | some a => exact n.h a⟩
instance [n : NoL e] : NoL (qT1 e) := ⟨fun p => by simp [noL, noLs, n.h]⟩
instance [n : NoL e] [m : NoL f] : NoL (qT2 e f) := ⟨fun p => by simp [noL, noLs, n.h, m.h]⟩
instance [n : NoL e] [m : NoL f] [k : NoL g] : NoL (qT3 e f g) := ⟨fun p => by simp [noL, noLs, n.h, m.h, k.h]⟩
instance [n : NoL e] [m : NoL f] [k : NoL g] [l : NoL h] : NoL (qT4 e f g h) := ⟨fun p => by simp [noL, noLs, n.h, m.h, k.h, l.h]⟩
end
instance : NoL qFr := ⟨fun _ => rfl⟩
instance : NoL qPo := ⟨fun p => by
  have := noLs_map (e := qI) p.coefs
  simp [noL, noLs, this]⟩
instance : NoL qPo2 := ⟨fun p => by
  have := noLs_map (e := qPo) p.rows
  simp only [qPo2, noL, noLs, this]; rfl⟩
instance : NoL qQt := ⟨fun p => by
  have h1 := (inferInstance : NoL qPo).h p.num
  have h2 := (inferInstance : NoL qPo).h p.den
  show (noL (qPo p.num) && (noL (qPo p.den) && true)) = true
  rw [h1, h2]; rfl⟩
instance : NoL qTm := ⟨fun p => by
  have h1 := (inferInstance : NoL qFr).h p.first
  have h2 := (inferInstance : NoL qQt).h p.ratio
  show (true && (noL (qFr p.first) && (noL (qQt p.ratio) && true))) = true
  rw [h1, h2]; rfl⟩
instance : NoL qBs := ⟨fun p => by
  have h1 := (inferInstance : NoL qPo2).h p.weight
  have h2 := (inferInstance : NoL qFr).h p.base
  show (noL (qPo2 p.weight) && (noL (qFr p.base) && (true && (true && (true && true))))) = true
  rw [h1, h2]; rfl⟩
instance : NoL qOpr := ⟨fun p => by
  have := noLs_map (e := qPo) p.coefs
  simp only [qOpr, noL, noLs, this]; rfl⟩
instance : NoL qRw := ⟨fun p => by
  have h1 := (inferInstance : NoL qOpr).h p.operator
  have h2 := noLs_map (e := qFr) p.initial
  show (noL (qOpr p.operator) && (noLs (p.initial.map qFr) && true)) = true
  rw [h1, h2]; rfl⟩
theorem nl_fro {α : Type} {e : α → Dt} [n : NoL e] (a : α) : noR (.fro (e a)) = true := n.h a
theorem nl_own {α : Type} {e : α → Dt} [n : NoL e] (xs : List α) : noR (.own (xs.map e)) = true := noLs_map xs
section
variable {f : FE} {t : FT} {ρ ρ' : PEnv} {n : Nat} {ds : List Dt} {d : Dt} {r : Rs} {b : Bool} {k : Kd}
theorem ev_bor (h0 : ρ[n]? = some (some (.own ds))) (hρ : ρ.set n (some (.fro (.lst ds))) = ρ') (h : EV f ρ' r) (hn : noR r = true) : EV (eBor n f) ρ r := by
  subst hρ
  unfold EV eBor
  rw [h0]
  dsimp only
  rw [h]
  dsimp only
  rw [if_pos hn]
theorem ev_borF (h0 : ρ[n]? = some (some (.fro d))) (h : EV f ρ r) : EV (eBor n f) ρ r := by
  unfold EV eBor
  rw [h0]; exact h
theorem tv_bor (h0 : ρ[n]? = some (some (.own ds))) (hρ : ρ.set n (some (.fro (.lst ds))) = ρ') (h : TV t ρ' b) : TV (tBor n t) ρ b := by
  subst hρ
  unfold TV tBor
  rw [h0]
  dsimp only
  rw [h]
theorem tv_borF (h0 : ρ[n]? = some (some (.fro d))) (h : TV t ρ b) : TV (tBor n t) ρ b := by
  unfold TV tBor
  rw [h0]; exact h
end
end Pd
set_option maxHeartbeats 2000000
namespace Pd
open PySem PySem.Spec L2
end Pd
set_option maxHeartbeats 2000000
namespace Pd
open PySem PySem.Spec L2
end Pd
set_option maxHeartbeats 2000000
namespace Pd
open PySem PySem.Spec L2
inductive KV where
  | i (n : Int)
  | l (xs : List Int)
  | ll (xs : List (List Int))
  | p (xs : List (List Int × Int))
  | q (xs : List (Int × Int))
  deriving DecidableEq
instance : Inhabited KV := ⟨.i 0⟩
section
variable {f : FE} {ρ : PEnv} {v : KV}
end
section
variable {f g : FE} {t : FT} {F G : FS} {ρ ρ' : PEnv} {c i : Nat} {d : Dt} {b : Bool} {hit : Nat → Option Bool} {gx : Nat → Option GX}
end
end Pd
set_option maxHeartbeats 2000000
namespace Pd
open PySem PySem.Spec L2
def eqS {α : Type} (q : α → α → Bool) : List α → List α → Bool
  | [], [] => true
  | x :: xs, y :: ys => q x y && eqS q xs ys
  | _, _ => false
@[simp] theorem eqS_self {α : Type} {q : α → α → Bool} (h : ∀ x, q x x = true) : ∀ xs : List α, eqS q xs xs = true
  | [] => rfl
  | x :: xs => by
    show (q x x && eqS q xs xs) = true
    rw [h x, eqS_self h xs]; rfl
class SmE {α : Type} (e : α → Dt) : Prop where
  sm : ∀ x y, same (e x) (e y) = true
theorem sames_map {α : Type} {e : α → Dt} [S : SmE e] : ∀ xs ys : List α, sames (xs.map e) (ys.map e) = true
  | [], [] => rfl
  | [], _ :: _ => rfl
  | _ :: _, [] => rfl
  | x :: xs, y :: ys => by
    show (same (e x) (e y) && sames (xs.map e) (ys.map e)) = true
    rw [S.sm x y, sames_map xs ys]; rfl
instance : SmE qI := ⟨fun _ _ => rfl⟩
instance : SmE qB := ⟨fun _ _ => rfl⟩
instance {α : Type} {e : α → Dt} [SmE e] : SmE (qL e) := ⟨fun xs ys => sames_map xs ys⟩
instance {α : Type} {e : α → Dt} [SmE e] : SmE (qV e) := ⟨fun xs ys => sames_map xs ys⟩
instance : SmE qFr := ⟨fun _ _ => rfl⟩
instance : SmE qPo := ⟨fun x y => by
  show (decide (21 = 21) && (sames (x.coefs.map qI) (y.coefs.map qI) && (true && true))) = true
  rw [sames_map]; rfl⟩
instance : SmE qPo2 := ⟨fun x y => by
  show (decide (22 = 22) && (sames (x.rows.map qPo) (y.rows.map qPo) && true)) = true
  rw [sames_map]; rfl⟩
section
variable {α : Type} {e : α → Dt} [S : SmE e] {ops : Nat → Option Fn} {c : Nat} {fn : Fn} {q : α → α → Bool}
end
instance {α β : Type} (e : α → Dt) (e' : β → Dt) [P : PyE e] [Q : PyE e'] : PyE (qO (qT2 e e')) := ⟨fun o => match o with | none => .none | some a => .tuple [P.py a.1, Q.py a.2], max P.dep Q.dep + 1, fun o => by cases o <;> simp [qO, pyD, pyDs, P.ok, Q.ok],
  fun o => by cases o <;> simp [PyData.canLay0, PyData.canLayAll0, P.lay, Q.lay],
  fun o => by
    cases o with
    | none => exact Nat.zero_le _
    | some p => simp only [PyData.depth, PyData.depthAll]; have := P.le p.1; have := Q.le p.2; omega,
  fun a b => by
    cases a with
    | none => cases b <;> simp [PyData.eqv]
    | some a =>
      cases b with
      | none => simp [PyData.eqv]
      | some b =>
        simp only [PyData.eqv, PyData.eqvAll, Bool.and_eq_true, P.eq, Q.eq, Bool.and_true, Option.some.injEq]
        exact ⟨fun h => Prod.ext h.1 h.2, fun h => by rw [h]; exact ⟨rfl, rfl⟩⟩⟩
end Pd
set_option maxHeartbeats 2000000
namespace Pd
open PySem PySem.Spec L2
def rsO {α : Type} (e : α → Dt) : Option (List α) → Rs
  | none => .fro .non
  | some xs => .own (xs.map e)
theorem fz_O {α : Type} {e : α → Dt} {r : Option (List α)} : frz (rsO e r) = some (.ok (qO (qL e) r)) := by cases r <;> rfl
theorem fn_RO {α : Type} {e : α → Dt} {F : FS} {args : List Dt} {np nl : Nat} {q : Option (List α)} (h : RtOk (F (args.map (fun d => some (.fro d)) ++ List.replicate nl none)) (fun r x => x = rsO e r) q) (hl : args.length = np := by rfl) : fnD np nl F args = some (.ok (rsO e q)) := by
  obtain ⟨x, a, b⟩ := fn_rt h hl
  rw [a, b]
theorem g_inA {α : Type} {k : Kd} {e : α → Dt} [P : PyE e] [DecidableEq α] {a : α} {xs : List α} [D : Decidable (a ∈ xs)] (hd : P.dep ≤ 63 := by decide) : gInD (.fro (e a)) (kR k (xs.map e)) = some (.ok (.fro (.bl (decide (a ∈ xs))))) := by
  have h : ∀ (i j : Decidable (a ∈ xs)), @decide _ i = @decide _ j := fun i j => by rw [Subsingleton.elim i j]
  rw [g_inK hd, h _ D]
end Pd
set_option maxHeartbeats 2000000
namespace Pd
open PySem PySem.Spec L2
noncomputable def q_trimmed_2 (numbers' : List Int) (size' : Int) : Int :=
  (size' - (1 : Int))
noncomputable def q_trimmed_3 (numbers' : List Int) (size' : Int) : Int :=
  wh (fun (s1 : Int) => ((decide (s1 > (0 : Int))) && (decide ((gt numbers' (s1 - (1 : Int))) = (0 : Int))))) (fun (s1 : Int) => q_trimmed_2 numbers' s1) size'
noncomputable def q_trimmed_4 (numbers' : List Int) (size' : Int) : List Int :=
  (cutT numbers' none (some size'))
noncomputable def q_trimmed_1 (numbers' : List Int) (size' : Int) : List Int :=
  q_trimmed_4 numbers' (q_trimmed_3 numbers' size')
def v_trimmed_1 (numbers' : List Int) (size' : Int) : Prop :=
  whV (fun (s1 : Int) => ((decide (s1 > (0 : Int))) && (decide ((gt numbers' (s1 - (1 : Int))) = (0 : Int))))) (fun (s1 : Int) => ((decide (s1 > (0 : Int))) = true → inR numbers' (s1 - (1 : Int)))) (fun (s1 : Int) => q_trimmed_2 numbers' s1) (fun (s1 : Int) => True) size'
noncomputable def q_trimmed_0 (numbers' : List Int) : List Int :=
  q_trimmed_1 numbers' (numbers'.length : Int)
def v_trimmed_0 (numbers' : List Int) : Prop :=
  v_trimmed_1 numbers' (numbers'.length : Int)
noncomputable def q_trimmed (numbers' : List Int) : List Int :=
  q_trimmed_0 numbers'
def v_trimmed (numbers' : List Int) : Prop :=
  v_trimmed_0 numbers'
noncomputable def q_content_2 (divisor' : Int) (number' : Int) : Int :=
  (Int.gcd divisor' number' : Int)
noncomputable def q_content_3 (numbers' : List Int) (divisor' : Int) : Int :=
  numbers'.foldl (fun (s1 : Int) (x2 : Int) => q_content_2 s1 x2) divisor'
noncomputable def q_content_4 (divisor' : Int) : Int :=
  divisor'
noncomputable def q_content_1 (numbers' : List Int) (divisor' : Int) : Int :=
  q_content_4 (q_content_3 numbers' divisor')
noncomputable def q_content_0 (numbers' : List Int) : Int :=
  q_content_1 numbers' (0 : Int)
noncomputable def q_content (numbers' : List Int) : Int :=
  q_content_0 numbers'
noncomputable def q_Poly_init_4 (den' : Int) (numbers' : List Int) (divisor' : Int) : Int :=
  (-divisor')
noncomputable def q_Poly_init_5 (den' : Int) (numbers' : List Int) (divisor' : Int) : Int :=
  if (decide (den' < (0 : Int))) then q_Poly_init_4 den' numbers' divisor' else divisor'
noncomputable def q_Poly_init_7 (den' : Int) (divisor' : Int) (sf_coefs : List Int) : (List Int) × Int :=
  (sf_coefs, (Int.fdiv den' divisor'))
def v_Poly_init_7 (den' : Int) (divisor' : Int) (sf_coefs : List Int) : Prop :=
  divisor' ≠ 0
noncomputable def q_Poly_init_6 (den' : Int) (numbers' : List Int) (divisor' : Int) : (List Int) × Int :=
  q_Poly_init_7 den' divisor' (numbers'.map fun (x3 : Int) => (Int.fdiv x3 divisor'))
def v_Poly_init_6 (den' : Int) (numbers' : List Int) (divisor' : Int) : Prop :=
  ((∀ x3, x3 ∈ numbers' → divisor' ≠ 0) ∧ numbers'.length ≤ LINE ∧ v_Poly_init_7 den' divisor' (numbers'.map fun (x3 : Int) => (Int.fdiv x3 divisor')))
noncomputable def q_Poly_init_3 (den' : Int) (numbers' : List Int) (divisor' : Int) : (List Int) × Int :=
  q_Poly_init_6 den' numbers' (q_Poly_init_5 den' numbers' divisor')
def v_Poly_init_3 (den' : Int) (numbers' : List Int) (divisor' : Int) : Prop :=
  v_Poly_init_6 den' numbers' (q_Poly_init_5 den' numbers' divisor')
noncomputable def q_Poly_init_2 (den' : Int) (numbers' : List Int) : (List Int) × Int :=
  q_Poly_init_3 den' numbers' (Int.gcd (q_content numbers') den' : Int)
def v_Poly_init_2 (den' : Int) (numbers' : List Int) : Prop :=
  v_Poly_init_3 den' numbers' (Int.gcd (q_content numbers') den' : Int)
noncomputable def q_Poly_init_1 (coefs' : List Int) (den' : Int) : (List Int) × Int :=
  q_Poly_init_2 den' (q_trimmed coefs')
def v_Poly_init_1 (coefs' : List Int) (den' : Int) : Prop :=
  (v_trimmed coefs' ∧ v_Poly_init_2 den' (q_trimmed coefs'))
noncomputable def q_Poly_init_0 (coefs' : List Int) (den' : Int) : (List Int) × Int :=
  q_Poly_init_1 coefs' den'
def v_Poly_init_0 (coefs' : List Int) (den' : Int) : Prop :=
  ((decide (den' = (0 : Int))) = false ∧ v_Poly_init_1 coefs' den')
noncomputable def q_Poly_init (coefs' : List Int) (den' : Int) : Po :=
  ⟨(q_Poly_init_0 coefs' den').1, (q_Poly_init_0 coefs' den').2⟩
def v_Poly_init (coefs' : List Int) (den' : Int) : Prop :=
  v_Poly_init_0 coefs' den'
noncomputable def q_Poly_add_4 (self' : Po) (other' : Po) (numbers' : List Int) : Po :=
  q_Poly_init numbers' (self'.den * other'.den)
def v_Poly_add_4 (self' : Po) (other' : Po) (numbers' : List Int) : Prop :=
  (mulOk self'.den other'.den = true ∧ v_Poly_init numbers' (self'.den * other'.den))
noncomputable def q_Poly_add_3 (self' : Po) (other' : Po) (first' : List Int) (second' : List Int) : Po :=
  q_Poly_add_4 self' other' ((first'.zip second').map fun (x1 : Int × Int) => ((x1.1 * other'.den) + (x1.2 * self'.den)))
def v_Poly_add_3 (self' : Po) (other' : Po) (first' : List Int) (second' : List Int) : Prop :=
  ((∀ x1, x1 ∈ (first'.zip second') → (mulOk x1.1 other'.den = true ∧ mulOk x1.2 self'.den = true)) ∧ (first'.zip second').length ≤ LINE ∧ v_Poly_add_4 self' other' ((first'.zip second').map fun (x1 : Int × Int) => ((x1.1 * other'.den) + (x1.2 * self'.den))))
noncomputable def q_Poly_add_2 (self' : Po) (other' : Po) (size' : Int) (first' : List Int) : Po :=
  q_Poly_add_3 self' other' first' (other'.coefs ++ (repT ([(0 : Int)]) (size' - (other'.coefs.length : Int))))
def v_Poly_add_2 (self' : Po) (other' : Po) (size' : Int) (first' : List Int) : Prop :=
  (((size' - (other'.coefs.length : Int)) < 2 ^ 62 ∧ -(2 ^ 62) ≤ (size' - (other'.coefs.length : Int))) ∧ ([(0 : Int)]).length * (size' - (other'.coefs.length : Int)).toNat ≤ LINE ∧ other'.coefs.length + (repT ([(0 : Int)]) (size' - (other'.coefs.length : Int))).length ≤ LINE ∧ v_Poly_add_3 self' other' first' (other'.coefs ++ (repT ([(0 : Int)]) (size' - (other'.coefs.length : Int)))))
noncomputable def q_Poly_add_1 (self' : Po) (other' : Po) (size' : Int) : Po :=
  q_Poly_add_2 self' other' size' (self'.coefs ++ (repT ([(0 : Int)]) (size' - (self'.coefs.length : Int))))
def v_Poly_add_1 (self' : Po) (other' : Po) (size' : Int) : Prop :=
  (((size' - (self'.coefs.length : Int)) < 2 ^ 62 ∧ -(2 ^ 62) ≤ (size' - (self'.coefs.length : Int))) ∧ ([(0 : Int)]).length * (size' - (self'.coefs.length : Int)).toNat ≤ LINE ∧ self'.coefs.length + (repT ([(0 : Int)]) (size' - (self'.coefs.length : Int))).length ≤ LINE ∧ v_Poly_add_2 self' other' size' (self'.coefs ++ (repT ([(0 : Int)]) (size' - (self'.coefs.length : Int)))))
noncomputable def q_Poly_add_0 (self' : Po) (other' : Po) : Po :=
  q_Poly_add_1 self' other' (max (self'.coefs.length : Int) (other'.coefs.length : Int))
def v_Poly_add_0 (self' : Po) (other' : Po) : Prop :=
  v_Poly_add_1 self' other' (max (self'.coefs.length : Int) (other'.coefs.length : Int))
noncomputable def q_Poly_add (self' : Po) (other' : Po) : Po :=
  q_Poly_add_0 self' other'
def v_Poly_add (self' : Po) (other' : Po) : Prop :=
  v_Poly_add_0 self' other'
noncomputable def q_Poly_mul_3 (self' : Po) (other' : Po) (numbers' : List Int) (i' : Int) (a' : Int) (j' : Int) (b' : Int) : (List Int) :=
  setT numbers' (i' + j') ((gt numbers' (i' + j')) + (a' * b'))
def v_Poly_mul_3 (self' : Po) (other' : Po) (numbers' : List Int) (i' : Int) (a' : Int) (j' : Int) (b' : Int) : Prop :=
  (inR numbers' (i' + j') ∧ mulOk a' b' = true ∧ inR numbers' (i' + j'))
noncomputable def q_Poly_mul_2 (self' : Po) (other' : Po) (numbers' : List Int) (i' : Int) (a' : Int) : (List Int) :=
  (fun s6 => s6) ((enT other'.coefs).foldl (fun (s3 : (List Int)) (x4 : Int × Int) => q_Poly_mul_3 self' other' s3 i' a' x4.1 x4.2) numbers')
def v_Poly_mul_2 (self' : Po) (other' : Po) (numbers' : List Int) (i' : Int) (a' : Int) : Prop :=
  forV (fun (s3 : (List Int)) (x4 : Int × Int) => v_Poly_mul_3 self' other' s3 i' a' x4.1 x4.2) (fun (s3 : (List Int)) (x4 : Int × Int) => q_Poly_mul_3 self' other' s3 i' a' x4.1 x4.2) (enT other'.coefs) numbers'
noncomputable def q_Poly_mul_4 (self' : Po) (other' : Po) (numbers' : List Int) : (List Int) :=
  (enT self'.coefs).foldl (fun (s7 : (List Int)) (x8 : Int × Int) => q_Poly_mul_2 self' other' s7 x8.1 x8.2) numbers'
noncomputable def q_Poly_mul_5 (self' : Po) (other' : Po) (numbers' : List Int) : Po :=
  q_Poly_init numbers' (self'.den * other'.den)
def v_Poly_mul_5 (self' : Po) (other' : Po) (numbers' : List Int) : Prop :=
  (mulOk self'.den other'.den = true ∧ v_Poly_init numbers' (self'.den * other'.den))
noncomputable def q_Poly_mul_1 (self' : Po) (other' : Po) (numbers' : List Int) : Po :=
  q_Poly_mul_5 self' other' (q_Poly_mul_4 self' other' numbers')
def v_Poly_mul_1 (self' : Po) (other' : Po) (numbers' : List Int) : Prop :=
  (forV (fun (s7 : (List Int)) (x8 : Int × Int) => v_Poly_mul_2 self' other' s7 x8.1 x8.2) (fun (s7 : (List Int)) (x8 : Int × Int) => q_Poly_mul_2 self' other' s7 x8.1 x8.2) (enT self'.coefs) numbers' ∧ v_Poly_mul_5 self' other' (q_Poly_mul_4 self' other' numbers'))
noncomputable def q_Poly_mul_0 (self' : Po) (other' : Po) : Po :=
  q_Poly_mul_1 self' other' ((rngT 0 ((self'.coefs.length : Int) + (other'.coefs.length : Int))).map fun (x1 : Int) => (0 : Int))
def v_Poly_mul_0 (self' : Po) (other' : Po) : Prop :=
  (rOk ((self'.coefs.length : Int) + (other'.coefs.length : Int)) = true ∧ (rngT 0 ((self'.coefs.length : Int) + (other'.coefs.length : Int))).length ≤ LINE ∧ v_Poly_mul_1 self' other' ((rngT 0 ((self'.coefs.length : Int) + (other'.coefs.length : Int))).map fun (x1 : Int) => (0 : Int)))
noncomputable def q_Poly_mul (self' : Po) (other' : Po) : Po :=
  q_Poly_mul_0 self' other'
def v_Poly_mul (self' : Po) (other' : Po) : Prop :=
  v_Poly_mul_0 self' other'
noncomputable def q_law_product_3 (a' : List Int) (b' : List Int) (result' : List Int) (i' : Int) (j' : Int) : (List Int) :=
  setT result' (i' + j') ((gt result' (i' + j')) + ((gt a' i') * (gt b' j')))
def v_law_product_3 (a' : List Int) (b' : List Int) (result' : List Int) (i' : Int) (j' : Int) : Prop :=
  (inR result' (i' + j') ∧ inR a' i' ∧ inR b' j' ∧ mulOk (gt a' i') (gt b' j') = true ∧ inR result' (i' + j'))
noncomputable def q_law_product_2 (a' : List Int) (b' : List Int) (result' : List Int) (i' : Int) : (List Int) :=
  (fun s6 => s6) ((rngT 0 (b'.length : Int)).foldl (fun (s3 : (List Int)) (x4 : Int) => q_law_product_3 a' b' s3 i' x4) result')
def v_law_product_2 (a' : List Int) (b' : List Int) (result' : List Int) (i' : Int) : Prop :=
  (rOk (b'.length : Int) = true ∧ forV (fun (s3 : (List Int)) (x4 : Int) => v_law_product_3 a' b' s3 i' x4) (fun (s3 : (List Int)) (x4 : Int) => q_law_product_3 a' b' s3 i' x4) (rngT 0 (b'.length : Int)) result')
noncomputable def q_law_product_4 (a' : List Int) (b' : List Int) (result' : List Int) : (List Int) :=
  (rngT 0 (a'.length : Int)).foldl (fun (s7 : (List Int)) (x8 : Int) => q_law_product_2 a' b' s7 x8) result'
noncomputable def q_law_product_5 (result' : List Int) : List Int :=
  result'
noncomputable def q_law_product_1 (a' : List Int) (b' : List Int) (result' : List Int) : List Int :=
  q_law_product_5 (q_law_product_4 a' b' result')
def v_law_product_1 (a' : List Int) (b' : List Int) (result' : List Int) : Prop :=
  (rOk (a'.length : Int) = true ∧ forV (fun (s7 : (List Int)) (x8 : Int) => v_law_product_2 a' b' s7 x8) (fun (s7 : (List Int)) (x8 : Int) => q_law_product_2 a' b' s7 x8) (rngT 0 (a'.length : Int)) result')
noncomputable def q_law_product_0 (a' : List Int) (b' : List Int) : List Int :=
  q_law_product_1 a' b' ((rngT 0 ((a'.length : Int) + (b'.length : Int))).map fun (x1 : Int) => (0 : Int))
def v_law_product_0 (a' : List Int) (b' : List Int) : Prop :=
  (rOk ((a'.length : Int) + (b'.length : Int)) = true ∧ (rngT 0 ((a'.length : Int) + (b'.length : Int))).length ≤ LINE ∧ v_law_product_1 a' b' ((rngT 0 ((a'.length : Int) + (b'.length : Int))).map fun (x1 : Int) => (0 : Int)))
noncomputable def q_law_product (a' : List Int) (b' : List Int) : List Int :=
  q_law_product_0 a' b'
def v_law_product (a' : List Int) (b' : List Int) : Prop :=
  v_law_product_0 a' b'
noncomputable def q_Fraction_init_3 (num' : Int) (den' : Int) (divisor' : Int) : Int :=
  (-divisor')
noncomputable def q_Fraction_init_4 (num' : Int) (den' : Int) (divisor' : Int) : Int :=
  if (decide (den' < (0 : Int))) then q_Fraction_init_3 num' den' divisor' else divisor'
noncomputable def q_Fraction_init_6 (den' : Int) (divisor' : Int) (sf_num : Int) : Int × Int :=
  (sf_num, (Int.fdiv den' divisor'))
def v_Fraction_init_6 (den' : Int) (divisor' : Int) (sf_num : Int) : Prop :=
  divisor' ≠ 0
noncomputable def q_Fraction_init_5 (num' : Int) (den' : Int) (divisor' : Int) : Int × Int :=
  q_Fraction_init_6 den' divisor' (Int.fdiv num' divisor')
def v_Fraction_init_5 (num' : Int) (den' : Int) (divisor' : Int) : Prop :=
  (divisor' ≠ 0 ∧ v_Fraction_init_6 den' divisor' (Int.fdiv num' divisor'))
noncomputable def q_Fraction_init_2 (num' : Int) (den' : Int) (divisor' : Int) : Int × Int :=
  q_Fraction_init_5 num' den' (q_Fraction_init_4 num' den' divisor')
def v_Fraction_init_2 (num' : Int) (den' : Int) (divisor' : Int) : Prop :=
  v_Fraction_init_5 num' den' (q_Fraction_init_4 num' den' divisor')
noncomputable def q_Fraction_init_1 (num' : Int) (den' : Int) : Int × Int :=
  q_Fraction_init_2 num' den' (Int.gcd num' den' : Int)
def v_Fraction_init_1 (num' : Int) (den' : Int) : Prop :=
  v_Fraction_init_2 num' den' (Int.gcd num' den' : Int)
noncomputable def q_Fraction_init_0 (num' : Int) (den' : Int) : Int × Int :=
  q_Fraction_init_1 num' den'
def v_Fraction_init_0 (num' : Int) (den' : Int) : Prop :=
  ((decide (den' = (0 : Int))) = false ∧ v_Fraction_init_1 num' den')
noncomputable def q_Fraction_init (num' : Int) (den' : Int) : Fr :=
  ⟨(q_Fraction_init_0 num' den').1, (q_Fraction_init_0 num' den').2⟩
def v_Fraction_init (num' : Int) (den' : Int) : Prop :=
  v_Fraction_init_0 num' den'
noncomputable def q_Poly_at_2 (self' : Po) (k' : Int) (total' : Int) (number' : Int) : Int :=
  ((total' * k') + number')
def v_Poly_at_2 (self' : Po) (k' : Int) (total' : Int) (number' : Int) : Prop :=
  mulOk total' k' = true
noncomputable def q_Poly_at_3 (self' : Po) (k' : Int) (total' : Int) : Int :=
  self'.coefs.reverse.foldl (fun (s1 : Int) (x2 : Int) => q_Poly_at_2 self' k' s1 x2) total'
noncomputable def q_Poly_at_4 (self' : Po) (total' : Int) : Fr :=
  q_Fraction_init total' self'.den
def v_Poly_at_4 (self' : Po) (total' : Int) : Prop :=
  v_Fraction_init total' self'.den
noncomputable def q_Poly_at_1 (self' : Po) (k' : Int) (total' : Int) : Fr :=
  q_Poly_at_4 self' (q_Poly_at_3 self' k' total')
def v_Poly_at_1 (self' : Po) (k' : Int) (total' : Int) : Prop :=
  (forV (fun (s1 : Int) (x2 : Int) => v_Poly_at_2 self' k' s1 x2) (fun (s1 : Int) (x2 : Int) => q_Poly_at_2 self' k' s1 x2) self'.coefs.reverse total' ∧ v_Poly_at_4 self' (q_Poly_at_3 self' k' total'))
noncomputable def q_Poly_at_0 (self' : Po) (k' : Int) : Fr :=
  q_Poly_at_1 self' k' (0 : Int)
def v_Poly_at_0 (self' : Po) (k' : Int) : Prop :=
  v_Poly_at_1 self' k' (0 : Int)
noncomputable def q_Poly_at (self' : Po) (k' : Int) : Fr :=
  q_Poly_at_0 self' k'
def v_Poly_at (self' : Po) (k' : Int) : Prop :=
  v_Poly_at_0 self' k'
noncomputable def q_Poly_shifted_3 (self' : Po) (step' : Int) (numbers' : List Int) (j' : Int) : (List Int) :=
  setT numbers' j' ((gt numbers' j') + (step' * (gt numbers' (j' + (1 : Int)))))
def v_Poly_shifted_3 (self' : Po) (step' : Int) (numbers' : List Int) (j' : Int) : Prop :=
  (inR numbers' j' ∧ inR numbers' (j' + (1 : Int)) ∧ mulOk step' (gt numbers' (j' + (1 : Int))) = true ∧ inR numbers' j')
noncomputable def q_Poly_shifted_2 (self' : Po) (step' : Int) (numbers' : List Int) (i' : Int) : (List Int) :=
  (rngDT ((numbers'.length : Int) - (2 : Int)) (i' - (1 : Int))).foldl (fun (s1 : (List Int)) (x2 : Int) => q_Poly_shifted_3 self' step' s1 x2) numbers'
def v_Poly_shifted_2 (self' : Po) (step' : Int) (numbers' : List Int) (i' : Int) : Prop :=
  (rOk ((numbers'.length : Int) - (2 : Int)) = true ∧ rOk (i' - (1 : Int)) = true ∧ forV (fun (s1 : (List Int)) (x2 : Int) => v_Poly_shifted_3 self' step' s1 x2) (fun (s1 : (List Int)) (x2 : Int) => q_Poly_shifted_3 self' step' s1 x2) (rngDT ((numbers'.length : Int) - (2 : Int)) (i' - (1 : Int))) numbers')
noncomputable def q_Poly_shifted_4 (self' : Po) (step' : Int) (numbers' : List Int) : (List Int) :=
  (rngT 0 ((numbers'.length : Int) - (1 : Int))).foldl (fun (s4 : (List Int)) (x5 : Int) => q_Poly_shifted_2 self' step' s4 x5) numbers'
noncomputable def q_Poly_shifted_5 (self' : Po) (numbers' : List Int) : Po :=
  q_Poly_init numbers' self'.den
def v_Poly_shifted_5 (self' : Po) (numbers' : List Int) : Prop :=
  v_Poly_init numbers' self'.den
noncomputable def q_Poly_shifted_1 (self' : Po) (step' : Int) (numbers' : List Int) : Po :=
  q_Poly_shifted_5 self' (q_Poly_shifted_4 self' step' numbers')
def v_Poly_shifted_1 (self' : Po) (step' : Int) (numbers' : List Int) : Prop :=
  (rOk ((numbers'.length : Int) - (1 : Int)) = true ∧ forV (fun (s4 : (List Int)) (x5 : Int) => v_Poly_shifted_2 self' step' s4 x5) (fun (s4 : (List Int)) (x5 : Int) => q_Poly_shifted_2 self' step' s4 x5) (rngT 0 ((numbers'.length : Int) - (1 : Int))) numbers' ∧ v_Poly_shifted_5 self' (q_Poly_shifted_4 self' step' numbers'))
noncomputable def q_Poly_shifted_0 (self' : Po) (step' : Int) : Po :=
  q_Poly_shifted_1 self' step' self'.coefs
def v_Poly_shifted_0 (self' : Po) (step' : Int) : Prop :=
  v_Poly_shifted_1 self' step' self'.coefs
noncomputable def q_Poly_shifted (self' : Po) (step' : Int) : Po :=
  q_Poly_shifted_0 self' step'
def v_Poly_shifted (self' : Po) (step' : Int) : Prop :=
  v_Poly_shifted_0 self' step'
noncomputable def q_Poly_is_zero_0 (self' : Po) : Bool :=
  (decide ((self'.coefs.length : Int) = (0 : Int)))
noncomputable def q_Poly_is_zero (self' : Po) : Bool :=
  q_Poly_is_zero_0 self'
noncomputable def q_content_x2_2 (divisor' : Int) (number' : Int) : Int :=
  (Int.gcd divisor' number' : Int)
noncomputable def q_content_x2_3 (numbers' : List Int) (divisor' : Int) : Int :=
  numbers'.foldl (fun (s1 : Int) (x2 : Int) => q_content_x2_2 s1 x2) divisor'
noncomputable def q_content_x2_4 (divisor' : Int) : Int :=
  divisor'
noncomputable def q_content_x2_1 (numbers' : List Int) (divisor' : Int) : Int :=
  q_content_x2_4 (q_content_x2_3 numbers' divisor')
noncomputable def q_content_x2_0 (numbers' : List Int) : Int :=
  q_content_x2_1 numbers' (0 : Int)
noncomputable def q_content_x2 (numbers' : List Int) : Int :=
  q_content_x2_0 numbers'
noncomputable def q_Poly_init_x2_4 (den' : Int) (numbers' : List Int) (divisor' : Int) : Int :=
  (-divisor')
noncomputable def q_Poly_init_x2_5 (den' : Int) (numbers' : List Int) (divisor' : Int) : Int :=
  if (decide (den' < (0 : Int))) then q_Poly_init_x2_4 den' numbers' divisor' else divisor'
noncomputable def q_Poly_init_x2_7 (den' : Int) (divisor' : Int) (sf_coefs : List Int) : (List Int) × Int :=
  (sf_coefs, (Int.fdiv den' divisor'))
def v_Poly_init_x2_7 (den' : Int) (divisor' : Int) (sf_coefs : List Int) : Prop :=
  divisor' ≠ 0
noncomputable def q_Poly_init_x2_6 (den' : Int) (numbers' : List Int) (divisor' : Int) : (List Int) × Int :=
  q_Poly_init_x2_7 den' divisor' (numbers'.map fun (x3 : Int) => (Int.fdiv x3 divisor'))
def v_Poly_init_x2_6 (den' : Int) (numbers' : List Int) (divisor' : Int) : Prop :=
  ((∀ x3, x3 ∈ numbers' → divisor' ≠ 0) ∧ numbers'.length ≤ LINE ∧ v_Poly_init_x2_7 den' divisor' (numbers'.map fun (x3 : Int) => (Int.fdiv x3 divisor')))
noncomputable def q_Poly_init_x2_3 (den' : Int) (numbers' : List Int) (divisor' : Int) : (List Int) × Int :=
  q_Poly_init_x2_6 den' numbers' (q_Poly_init_x2_5 den' numbers' divisor')
def v_Poly_init_x2_3 (den' : Int) (numbers' : List Int) (divisor' : Int) : Prop :=
  v_Poly_init_x2_6 den' numbers' (q_Poly_init_x2_5 den' numbers' divisor')
noncomputable def q_Poly_init_x2_2 (den' : Int) (numbers' : List Int) : (List Int) × Int :=
  q_Poly_init_x2_3 den' numbers' (Int.gcd (q_content numbers') den' : Int)
def v_Poly_init_x2_2 (den' : Int) (numbers' : List Int) : Prop :=
  v_Poly_init_x2_3 den' numbers' (Int.gcd (q_content numbers') den' : Int)
noncomputable def q_Poly_init_x2_1 (coefs' : List Int) (den' : Int) : (List Int) × Int :=
  q_Poly_init_x2_2 den' (q_trimmed coefs')
def v_Poly_init_x2_1 (coefs' : List Int) (den' : Int) : Prop :=
  (v_trimmed coefs' ∧ v_Poly_init_x2_2 den' (q_trimmed coefs'))
noncomputable def q_Poly_init_x2_0 (coefs' : List Int) (den' : Int) : (List Int) × Int :=
  q_Poly_init_x2_1 coefs' den'
def v_Poly_init_x2_0 (coefs' : List Int) (den' : Int) : Prop :=
  ((decide (den' = (0 : Int))) = false ∧ v_Poly_init_x2_1 coefs' den')
noncomputable def q_Poly_init_x2 (coefs' : List Int) (den' : Int) : Po :=
  ⟨(q_Poly_init_x2_0 coefs' den').1, (q_Poly_init_x2_0 coefs' den').2⟩
def v_Poly_init_x2 (coefs' : List Int) (den' : Int) : Prop :=
  v_Poly_init_x2_0 coefs' den'
noncomputable def q_primitive_1 (p' : Po) : Po :=
  p'
noncomputable def q_primitive_2 (p' : Po) : Po :=
  q_Poly_init_x2 p'.coefs (q_content_x2 p'.coefs)
def v_primitive_2 (p' : Po) : Prop :=
  v_Poly_init_x2 p'.coefs (q_content_x2 p'.coefs)
noncomputable def q_primitive_0 (p' : Po) : Po :=
  if q_Poly_is_zero p' then q_primitive_1 p' else q_primitive_2 p'
def v_primitive_0 (p' : Po) : Prop :=
  ((q_Poly_is_zero p') = false → v_primitive_2 p')
noncomputable def q_primitive (p' : Po) : Po :=
  q_primitive_0 p'
def v_primitive (p' : Po) : Prop :=
  v_primitive_0 p'
noncomputable def q_Poly_eq_0 (self' : Po) (other' : Po) : Bool :=
  (true && ((decide (self'.coefs = other'.coefs)) && (decide (self'.den = other'.den))))
noncomputable def q_Poly_eq (self' : Po) (other' : Po) : Bool :=
  q_Poly_eq_0 self' other'
noncomputable def q_Quotient_eq_0 (self' : Qt) (other' : Qt) : Bool :=
  (true && ((q_Poly_eq self'.num other'.num) && (q_Poly_eq self'.den other'.den)))
noncomputable def q_Quotient_eq (self' : Qt) (other' : Qt) : Bool :=
  q_Quotient_eq_0 self' other'
noncomputable def q_law_at_x2_4 (x' : Int) (total' : Int) (power' : Int) : Int × Int :=
  (total', (power' * x'))
def v_law_at_x2_4 (x' : Int) (total' : Int) (power' : Int) : Prop :=
  mulOk power' x' = true
noncomputable def q_law_at_x2_3 (x' : Int) (total' : Int) (power' : Int) (number' : Int) : Int × Int :=
  q_law_at_x2_4 x' (total' + (number' * power')) power'
def v_law_at_x2_3 (x' : Int) (total' : Int) (power' : Int) (number' : Int) : Prop :=
  (mulOk number' power' = true ∧ v_law_at_x2_4 x' (total' + (number' * power')) power')
noncomputable def q_law_at_x2_5 (coefs' : List Int) (x' : Int) (total' : Int) (power' : Int) : Int × Int :=
  coefs'.foldl (fun (s1 : Int × Int) (x2 : Int) => q_law_at_x2_3 x' s1.1 s1.2 x2) (total', power')
noncomputable def q_law_at_x2_6 (total' : Int) : Int :=
  total'
noncomputable def q_law_at_x2_2 (coefs' : List Int) (x' : Int) (total' : Int) (power' : Int) : Int :=
  q_law_at_x2_6 ((q_law_at_x2_5 coefs' x' total' power').1)
def v_law_at_x2_2 (coefs' : List Int) (x' : Int) (total' : Int) (power' : Int) : Prop :=
  forV (fun (s1 : Int × Int) (x2 : Int) => v_law_at_x2_3 x' s1.1 s1.2 x2) (fun (s1 : Int × Int) (x2 : Int) => q_law_at_x2_3 x' s1.1 s1.2 x2) coefs' (total', power')
noncomputable def q_law_at_x2_1 (coefs' : List Int) (x' : Int) (total' : Int) : Int :=
  q_law_at_x2_2 coefs' x' total' (1 : Int)
def v_law_at_x2_1 (coefs' : List Int) (x' : Int) (total' : Int) : Prop :=
  v_law_at_x2_2 coefs' x' total' (1 : Int)
noncomputable def q_law_at_x2_0 (coefs' : List Int) (x' : Int) : Int :=
  q_law_at_x2_1 coefs' x' (0 : Int)
def v_law_at_x2_0 (coefs' : List Int) (x' : Int) : Prop :=
  v_law_at_x2_1 coefs' x' (0 : Int)
noncomputable def q_law_at_x2 (coefs' : List Int) (x' : Int) : Int :=
  q_law_at_x2_0 coefs' x'
def v_law_at_x2 (coefs' : List Int) (x' : Int) : Prop :=
  v_law_at_x2_0 coefs' x'
noncomputable def q_Fraction_add_0 (self' : Fr) (other' : Fr) : Fr :=
  q_Fraction_init ((self'.num * other'.den) + (other'.num * self'.den)) (self'.den * other'.den)
def v_Fraction_add_0 (self' : Fr) (other' : Fr) : Prop :=
  (mulOk self'.num other'.den = true ∧ mulOk other'.num self'.den = true ∧ mulOk self'.den other'.den = true ∧ v_Fraction_init ((self'.num * other'.den) + (other'.num * self'.den)) (self'.den * other'.den))
noncomputable def q_Fraction_add (self' : Fr) (other' : Fr) : Fr :=
  q_Fraction_add_0 self' other'
def v_Fraction_add (self' : Fr) (other' : Fr) : Prop :=
  v_Fraction_add_0 self' other'
noncomputable def q_Fraction_mul_0 (self' : Fr) (other' : Fr) : Fr :=
  q_Fraction_init (self'.num * other'.num) (self'.den * other'.den)
def v_Fraction_mul_0 (self' : Fr) (other' : Fr) : Prop :=
  (mulOk self'.num other'.num = true ∧ mulOk self'.den other'.den = true ∧ v_Fraction_init (self'.num * other'.num) (self'.den * other'.den))
noncomputable def q_Fraction_mul (self' : Fr) (other' : Fr) : Fr :=
  q_Fraction_mul_0 self' other'
def v_Fraction_mul (self' : Fr) (other' : Fr) : Prop :=
  v_Fraction_mul_0 self' other'
noncomputable def q_law_cell_1 (script' : List Int) (k' : Int) : Int :=
  (gt script' k')
def v_law_cell_1 (script' : List Int) (k' : Int) : Prop :=
  inR script' k'
noncomputable def q_law_cell_3 (k' : Int) : Int :=
  ((31 : Int) * k')
def v_law_cell_3 (k' : Int) : Prop :=
  mulOk (31 : Int) k' = true
noncomputable def q_law_cell_4 (script' : List Int) (k' : Int) : Int :=
  (((gt script' (0 : Int)) * (7919 : Int)) + ((104729 : Int) * k'))
def v_law_cell_4 (script' : List Int) (k' : Int) : Prop :=
  (inR script' (0 : Int) ∧ mulOk (gt script' (0 : Int)) (7919 : Int) = true ∧ mulOk (104729 : Int) k' = true)
noncomputable def q_law_cell_2 (script' : List Int) (k' : Int) : Int :=
  if (decide ((script'.length : Int) = (0 : Int))) then q_law_cell_3 k' else q_law_cell_4 script' k'
def v_law_cell_2 (script' : List Int) (k' : Int) : Prop :=
  (((decide ((script'.length : Int) = (0 : Int))) = true → v_law_cell_3 k') ∧ ((decide ((script'.length : Int) = (0 : Int))) = false → v_law_cell_4 script' k'))
noncomputable def q_law_cell_0 (script' : List Int) (k' : Int) : Int :=
  if (decide (k' < (script'.length : Int))) then q_law_cell_1 script' k' else q_law_cell_2 script' k'
def v_law_cell_0 (script' : List Int) (k' : Int) : Prop :=
  (((decide (k' < (script'.length : Int))) = true → v_law_cell_1 script' k') ∧ ((decide (k' < (script'.length : Int))) = false → v_law_cell_2 script' k'))
noncomputable def q_law_cell (script' : List Int) (k' : Int) : Int :=
  q_law_cell_0 script' k'
def v_law_cell (script' : List Int) (k' : Int) : Prop :=
  v_law_cell_0 script' k'
noncomputable def q_law_digits_6 (cell_here' : Int) (limit' : Int) (rest' : Int) (whole' : Bool) (found' : List Int) : Int × (List Int) :=
  ((Int.fdiv rest' limit'), found')
def v_law_digits_6 (cell_here' : Int) (limit' : Int) (rest' : Int) (whole' : Bool) (found' : List Int) : Prop :=
  limit' ≠ 0
noncomputable def q_law_digits_5 (cell_here' : Int) (limit' : Int) (rest' : Int) (whole' : Bool) (found' : List Int) : Int × (List Int) :=
  q_law_digits_6 cell_here' limit' rest' whole' (found' ++ [(Int.fmod rest' limit')])
def v_law_digits_5 (cell_here' : Int) (limit' : Int) (rest' : Int) (whole' : Bool) (found' : List Int) : Prop :=
  (limit' ≠ 0 ∧ found'.length < LINE ∧ v_law_digits_6 cell_here' limit' rest' whole' (found' ++ [(Int.fmod rest' limit')]))
noncomputable def q_law_digits_9 (cell_here' : Int) (limit' : Int) (rest' : Int) (whole' : Bool) (found' : List Int) (mixed' : Int) : Int × (List Int) :=
  (rest', (found' ++ [(Int.fmod (Int.fdiv mixed' (5 : Int)) limit')]))
def v_law_digits_9 (cell_here' : Int) (limit' : Int) (rest' : Int) (whole' : Bool) (found' : List Int) (mixed' : Int) : Prop :=
  (limit' ≠ 0 ∧ found'.length < LINE)
noncomputable def q_law_digits_8 (cell_here' : Int) (limit' : Int) (rest' : Int) (whole' : Bool) (found' : List Int) (k' : Int) (mixed' : Int) : Int × (List Int) :=
  q_law_digits_9 cell_here' limit' rest' whole' found' (Int.fmod ((mixed' * (16807 : Int)) + ((11 : Int) * k')) (2147483629 : Int))
def v_law_digits_8 (cell_here' : Int) (limit' : Int) (rest' : Int) (whole' : Bool) (found' : List Int) (k' : Int) (mixed' : Int) : Prop :=
  (mulOk mixed' (16807 : Int) = true ∧ mulOk (11 : Int) k' = true ∧ v_law_digits_9 cell_here' limit' rest' whole' found' (Int.fmod ((mixed' * (16807 : Int)) + ((11 : Int) * k')) (2147483629 : Int)))
noncomputable def q_law_digits_7 (cell_here' : Int) (limit' : Int) (rest' : Int) (whole' : Bool) (found' : List Int) (k' : Int) : Int × (List Int) :=
  q_law_digits_8 cell_here' limit' rest' whole' found' k' (Int.fmod ((((cell_here'.natAbs : Int) + (3 : Int)) * (48271 : Int)) + (k' * (69621 : Int))) (2147483647 : Int))
def v_law_digits_7 (cell_here' : Int) (limit' : Int) (rest' : Int) (whole' : Bool) (found' : List Int) (k' : Int) : Prop :=
  (mulOk ((cell_here'.natAbs : Int) + (3 : Int)) (48271 : Int) = true ∧ mulOk k' (69621 : Int) = true ∧ v_law_digits_8 cell_here' limit' rest' whole' found' k' (Int.fmod ((((cell_here'.natAbs : Int) + (3 : Int)) * (48271 : Int)) + (k' * (69621 : Int))) (2147483647 : Int)))
noncomputable def q_law_digits_4 (cell_here' : Int) (limit' : Int) (rest' : Int) (whole' : Bool) (found' : List Int) (k' : Int) : Int × (List Int) :=
  if (whole' && (decide (rest' > (0 : Int)))) then q_law_digits_5 cell_here' limit' rest' whole' found' else q_law_digits_7 cell_here' limit' rest' whole' found' k'
def v_law_digits_4 (cell_here' : Int) (limit' : Int) (rest' : Int) (whole' : Bool) (found' : List Int) (k' : Int) : Prop :=
  (((whole' && (decide (rest' > (0 : Int)))) = true → v_law_digits_5 cell_here' limit' rest' whole' found') ∧ ((whole' && (decide (rest' > (0 : Int)))) = false → v_law_digits_7 cell_here' limit' rest' whole' found' k'))
noncomputable def q_law_digits_10 (cell_here' : Int) (limit' : Int) (count' : Int) (rest' : Int) (whole' : Bool) (found' : List Int) : Int × (List Int) :=
  (rngT 0 count').foldl (fun (s3 : Int × (List Int)) (x4 : Int) => q_law_digits_4 cell_here' limit' s3.1 whole' s3.2 x4) (rest', found')
noncomputable def q_law_digits_11 (found' : List Int) : List Int :=
  found'
noncomputable def q_law_digits_3 (cell_here' : Int) (limit' : Int) (count' : Int) (rest' : Int) (whole' : Bool) (found' : List Int) : List Int :=
  q_law_digits_11 ((q_law_digits_10 cell_here' limit' count' rest' whole' found').2)
def v_law_digits_3 (cell_here' : Int) (limit' : Int) (count' : Int) (rest' : Int) (whole' : Bool) (found' : List Int) : Prop :=
  (rOk count' = true ∧ forV (fun (s3 : Int × (List Int)) (x4 : Int) => v_law_digits_4 cell_here' limit' s3.1 whole' s3.2 x4) (fun (s3 : Int × (List Int)) (x4 : Int) => q_law_digits_4 cell_here' limit' s3.1 whole' s3.2 x4) (rngT 0 count') (rest', found'))
noncomputable def q_law_digits_2 (cell_here' : Int) (limit' : Int) (count' : Int) (rest' : Int) (whole' : Bool) : List Int :=
  q_law_digits_3 cell_here' limit' count' rest' whole' ([] : List Int)
def v_law_digits_2 (cell_here' : Int) (limit' : Int) (count' : Int) (rest' : Int) (whole' : Bool) : Prop :=
  v_law_digits_3 cell_here' limit' count' rest' whole' ([] : List Int)
noncomputable def q_law_digits_1 (cell_here' : Int) (limit' : Int) (count' : Int) (rest' : Int) : List Int :=
  q_law_digits_2 cell_here' limit' count' rest' (decide (rest' ≥ (1000000000000000000 : Int)))
def v_law_digits_1 (cell_here' : Int) (limit' : Int) (count' : Int) (rest' : Int) : Prop :=
  v_law_digits_2 cell_here' limit' count' rest' (decide (rest' ≥ (1000000000000000000 : Int)))
noncomputable def q_law_digits_0 (cell_here' : Int) (limit' : Int) (count' : Int) : List Int :=
  q_law_digits_1 cell_here' limit' count' (cell_here'.natAbs : Int)
def v_law_digits_0 (cell_here' : Int) (limit' : Int) (count' : Int) : Prop :=
  v_law_digits_1 cell_here' limit' count' (cell_here'.natAbs : Int)
noncomputable def q_law_digits (cell_here' : Int) (limit' : Int) (count' : Int) : List Int :=
  q_law_digits_0 cell_here' limit' count'
def v_law_digits (cell_here' : Int) (limit' : Int) (count' : Int) : Prop :=
  v_law_digits_0 cell_here' limit' count'
noncomputable def q_law_trim_3 (xs' : List Int) (size' : Int) (k' : Int) : Int :=
  (k' + (1 : Int))
noncomputable def q_law_trim_2 (xs' : List Int) (size' : Int) (k' : Int) : Int :=
  if (!decide ((gt xs' k') = (0 : Int))) then q_law_trim_3 xs' size' k' else size'
def v_law_trim_2 (xs' : List Int) (size' : Int) (k' : Int) : Prop :=
  inR xs' k'
noncomputable def q_law_trim_4 (xs' : List Int) (size' : Int) : Int :=
  (rngT 0 (xs'.length : Int)).foldl (fun (s2 : Int) (x3 : Int) => q_law_trim_2 xs' s2 x3) size'
noncomputable def q_law_trim_5 (xs' : List Int) (size' : Int) : List Int :=
  (cutT xs' none (some size'))
noncomputable def q_law_trim_1 (xs' : List Int) (size' : Int) : List Int :=
  q_law_trim_5 xs' (q_law_trim_4 xs' size')
def v_law_trim_1 (xs' : List Int) (size' : Int) : Prop :=
  (rOk (xs'.length : Int) = true ∧ forV (fun (s2 : Int) (x3 : Int) => v_law_trim_2 xs' s2 x3) (fun (s2 : Int) (x3 : Int) => q_law_trim_2 xs' s2 x3) (rngT 0 (xs'.length : Int)) size')
noncomputable def q_law_trim_0 (xs' : List Int) : List Int :=
  q_law_trim_1 xs' (0 : Int)
def v_law_trim_0 (xs' : List Int) : Prop :=
  v_law_trim_1 xs' (0 : Int)
noncomputable def q_law_trim (xs' : List Int) : List Int :=
  q_law_trim_0 xs'
def v_law_trim (xs' : List Int) : Prop :=
  v_law_trim_0 xs'
noncomputable def q_law_draw_4 (ds' : List Int) (coefs' : List Int) : (List Int) :=
  (coefs' ++ [(0 : Int)])
def v_law_draw_4 (ds' : List Int) (coefs' : List Int) : Prop :=
  coefs'.length < LINE
noncomputable def q_law_draw_5 (ds' : List Int) (coefs' : List Int) (d' : Int) : (List Int) :=
  (coefs' ++ [((Int.fmod d' (19 : Int)) - (9 : Int))])
def v_law_draw_5 (ds' : List Int) (coefs' : List Int) (d' : Int) : Prop :=
  coefs'.length < LINE
noncomputable def q_law_draw_3 (ds' : List Int) (coefs' : List Int) (d' : Int) : (List Int) :=
  if ((decide ((Int.fmod (gt ds' (1 : Int)) (3 : Int)) = (0 : Int))) && (decide ((Int.fmod (Int.fdiv d' (19 : Int)) (2 : Int)) = (0 : Int)))) then q_law_draw_4 ds' coefs' else q_law_draw_5 ds' coefs' d'
def v_law_draw_3 (ds' : List Int) (coefs' : List Int) (d' : Int) : Prop :=
  (inR ds' (1 : Int) ∧ (((decide ((Int.fmod (gt ds' (1 : Int)) (3 : Int)) = (0 : Int))) && (decide ((Int.fmod (Int.fdiv d' (19 : Int)) (2 : Int)) = (0 : Int)))) = true → v_law_draw_4 ds' coefs') ∧ (((decide ((Int.fmod (gt ds' (1 : Int)) (3 : Int)) = (0 : Int))) && (decide ((Int.fmod (Int.fdiv d' (19 : Int)) (2 : Int)) = (0 : Int)))) = false → v_law_draw_5 ds' coefs' d'))
noncomputable def q_law_draw_6 (most' : Int) (ds' : List Int) (coefs' : List Int) : (List Int) :=
  (cutT ds' (some (2 : Int)) (some ((3 : Int) + (Int.fmod (gt ds' (0 : Int)) (most' + (1 : Int)))))).foldl (fun (s3 : (List Int)) (x4 : Int) => q_law_draw_3 ds' s3 x4) coefs'
noncomputable def q_law_draw_8 (ds' : List Int) (coefs' : List Int) : (List Int) :=
  [((Int.fmod (gt ds' (0 : Int)) (7 : Int)) + (1 : Int))]
def v_law_draw_8 (ds' : List Int) (coefs' : List Int) : Prop :=
  inR ds' (0 : Int)
noncomputable def q_law_draw_9 (ds' : List Int) (coefs' : List Int) : (List Int) :=
  if (decide (((q_law_trim coefs').length : Int) = (0 : Int))) then q_law_draw_8 ds' coefs' else coefs'
noncomputable def q_law_draw_10 (ds' : List Int) (coefs' : List Int) : (List Int) × Int :=
  (q_law_trim coefs', ((Int.fmod (Int.fdiv (gt ds' (1 : Int)) (3 : Int)) (3 : Int)) + (1 : Int)))
def v_law_draw_10 (ds' : List Int) (coefs' : List Int) : Prop :=
  (v_law_trim coefs' ∧ inR ds' (1 : Int))
noncomputable def q_law_draw_7 (ds' : List Int) (coefs' : List Int) : (List Int) × Int :=
  q_law_draw_10 ds' (q_law_draw_9 ds' coefs')
def v_law_draw_7 (ds' : List Int) (coefs' : List Int) : Prop :=
  (v_law_trim coefs' ∧ ((decide (((q_law_trim coefs').length : Int) = (0 : Int))) = true → v_law_draw_8 ds' coefs') ∧ v_law_draw_10 ds' (q_law_draw_9 ds' coefs'))
noncomputable def q_law_draw_2 (most' : Int) (ds' : List Int) (coefs' : List Int) : (List Int) × Int :=
  q_law_draw_7 ds' (q_law_draw_6 most' ds' coefs')
def v_law_draw_2 (most' : Int) (ds' : List Int) (coefs' : List Int) : Prop :=
  (inR ds' (0 : Int) ∧ (most' + (1 : Int)) ≠ 0 ∧ forV (fun (s3 : (List Int)) (x4 : Int) => v_law_draw_3 ds' s3 x4) (fun (s3 : (List Int)) (x4 : Int) => q_law_draw_3 ds' s3 x4) (cutT ds' (some (2 : Int)) (some ((3 : Int) + (Int.fmod (gt ds' (0 : Int)) (most' + (1 : Int)))))) coefs' ∧ v_law_draw_7 ds' (q_law_draw_6 most' ds' coefs'))
noncomputable def q_law_draw_1 (most' : Int) (ds' : List Int) : (List Int) × Int :=
  q_law_draw_2 most' ds' ([] : List Int)
def v_law_draw_1 (most' : Int) (ds' : List Int) : Prop :=
  v_law_draw_2 most' ds' ([] : List Int)
noncomputable def q_law_draw_0 (cell_here' : Int) (most' : Int) : (List Int) × Int :=
  q_law_draw_1 most' (q_law_digits cell_here' (228 : Int) (most' + (3 : Int)))
def v_law_draw_0 (cell_here' : Int) (most' : Int) : Prop :=
  (v_law_digits cell_here' (228 : Int) (most' + (3 : Int)) ∧ v_law_draw_1 most' (q_law_digits cell_here' (228 : Int) (most' + (3 : Int))))
noncomputable def q_law_draw (cell_here' : Int) (most' : Int) : (List Int) × Int :=
  q_law_draw_0 cell_here' most'
def v_law_draw (cell_here' : Int) (most' : Int) : Prop :=
  v_law_draw_0 cell_here' most'
noncomputable def q_law_scale_0 (xs' : List Int) (factor' : Int) : List Int :=
  q_law_trim (xs'.map fun (x1 : Int) => (factor' * x1))
def v_law_scale_0 (xs' : List Int) (factor' : Int) : Prop :=
  ((∀ x1, x1 ∈ xs' → mulOk factor' x1 = true) ∧ xs'.length ≤ LINE ∧ v_law_trim (xs'.map fun (x1 : Int) => (factor' * x1)))
noncomputable def q_law_scale (xs' : List Int) (factor' : Int) : List Int :=
  q_law_scale_0 xs' factor'
def v_law_scale (xs' : List Int) (factor' : Int) : Prop :=
  v_law_scale_0 xs' factor'
noncomputable def q_law_sum_x2_2 (xs' : List Int) (ys' : List Int) (found' : List Int) (i' : Int) : (List Int) :=
  setT found' i' (gt xs' i')
def v_law_sum_x2_2 (xs' : List Int) (ys' : List Int) (found' : List Int) (i' : Int) : Prop :=
  (inR xs' i' ∧ inR found' i')
noncomputable def q_law_sum_x2_3 (xs' : List Int) (ys' : List Int) (found' : List Int) : (List Int) :=
  (rngT 0 (xs'.length : Int)).foldl (fun (s3 : (List Int)) (x4 : Int) => q_law_sum_x2_2 xs' ys' s3 x4) found'
noncomputable def q_law_sum_x2_5 (ys' : List Int) (found' : List Int) (j' : Int) : (List Int) :=
  setT found' j' ((gt found' j') + (gt ys' j'))
def v_law_sum_x2_5 (ys' : List Int) (found' : List Int) (j' : Int) : Prop :=
  (inR found' j' ∧ inR ys' j' ∧ inR found' j')
noncomputable def q_law_sum_x2_6 (ys' : List Int) (found' : List Int) : (List Int) :=
  (rngT 0 (ys'.length : Int)).foldl (fun (s6 : (List Int)) (x7 : Int) => q_law_sum_x2_5 ys' s6 x7) found'
noncomputable def q_law_sum_x2_7 (found' : List Int) : List Int :=
  q_law_trim found'
def v_law_sum_x2_7 (found' : List Int) : Prop :=
  v_law_trim found'
noncomputable def q_law_sum_x2_4 (ys' : List Int) (found' : List Int) : List Int :=
  q_law_sum_x2_7 (q_law_sum_x2_6 ys' found')
def v_law_sum_x2_4 (ys' : List Int) (found' : List Int) : Prop :=
  (rOk (ys'.length : Int) = true ∧ forV (fun (s6 : (List Int)) (x7 : Int) => v_law_sum_x2_5 ys' s6 x7) (fun (s6 : (List Int)) (x7 : Int) => q_law_sum_x2_5 ys' s6 x7) (rngT 0 (ys'.length : Int)) found' ∧ v_law_sum_x2_7 (q_law_sum_x2_6 ys' found'))
noncomputable def q_law_sum_x2_1 (xs' : List Int) (ys' : List Int) (found' : List Int) : List Int :=
  q_law_sum_x2_4 ys' (q_law_sum_x2_3 xs' ys' found')
def v_law_sum_x2_1 (xs' : List Int) (ys' : List Int) (found' : List Int) : Prop :=
  (rOk (xs'.length : Int) = true ∧ forV (fun (s3 : (List Int)) (x4 : Int) => v_law_sum_x2_2 xs' ys' s3 x4) (fun (s3 : (List Int)) (x4 : Int) => q_law_sum_x2_2 xs' ys' s3 x4) (rngT 0 (xs'.length : Int)) found' ∧ v_law_sum_x2_4 ys' (q_law_sum_x2_3 xs' ys' found'))
noncomputable def q_law_sum_x2_0 (xs' : List Int) (ys' : List Int) : List Int :=
  q_law_sum_x2_1 xs' ys' ((rngT 0 (max (xs'.length : Int) (ys'.length : Int))).map fun (x1 : Int) => (0 : Int))
def v_law_sum_x2_0 (xs' : List Int) (ys' : List Int) : Prop :=
  (rOk (max (xs'.length : Int) (ys'.length : Int)) = true ∧ (rngT 0 (max (xs'.length : Int) (ys'.length : Int))).length ≤ LINE ∧ v_law_sum_x2_1 xs' ys' ((rngT 0 (max (xs'.length : Int) (ys'.length : Int))).map fun (x1 : Int) => (0 : Int)))
noncomputable def q_law_sum_x2 (xs' : List Int) (ys' : List Int) : List Int :=
  q_law_sum_x2_0 xs' ys'
def v_law_sum_x2 (xs' : List Int) (ys' : List Int) : Prop :=
  v_law_sum_x2_0 xs' ys'
noncomputable def q_law_shift_3 (step' : Int) (found' : List Int) (j' : Int) : (List Int) :=
  setT found' j' ((gt found' j') + (step' * (gt found' (j' + (1 : Int)))))
def v_law_shift_3 (step' : Int) (found' : List Int) (j' : Int) : Prop :=
  (inR found' j' ∧ inR found' (j' + (1 : Int)) ∧ mulOk step' (gt found' (j' + (1 : Int))) = true ∧ inR found' j')
noncomputable def q_law_shift_2 (step' : Int) (found' : List Int) (i' : Int) : (List Int) :=
  (rngDT ((found'.length : Int) - (2 : Int)) (i' - (1 : Int))).foldl (fun (s1 : (List Int)) (x2 : Int) => q_law_shift_3 step' s1 x2) found'
def v_law_shift_2 (step' : Int) (found' : List Int) (i' : Int) : Prop :=
  (rOk ((found'.length : Int) - (2 : Int)) = true ∧ rOk (i' - (1 : Int)) = true ∧ forV (fun (s1 : (List Int)) (x2 : Int) => v_law_shift_3 step' s1 x2) (fun (s1 : (List Int)) (x2 : Int) => q_law_shift_3 step' s1 x2) (rngDT ((found'.length : Int) - (2 : Int)) (i' - (1 : Int))) found')
noncomputable def q_law_shift_4 (step' : Int) (found' : List Int) : (List Int) :=
  (rngT 0 ((found'.length : Int) - (1 : Int))).foldl (fun (s4 : (List Int)) (x5 : Int) => q_law_shift_2 step' s4 x5) found'
noncomputable def q_law_shift_5 (found' : List Int) : List Int :=
  found'
noncomputable def q_law_shift_1 (step' : Int) (found' : List Int) : List Int :=
  q_law_shift_5 (q_law_shift_4 step' found')
def v_law_shift_1 (step' : Int) (found' : List Int) : Prop :=
  (rOk ((found'.length : Int) - (1 : Int)) = true ∧ forV (fun (s4 : (List Int)) (x5 : Int) => v_law_shift_2 step' s4 x5) (fun (s4 : (List Int)) (x5 : Int) => q_law_shift_2 step' s4 x5) (rngT 0 ((found'.length : Int) - (1 : Int))) found')
noncomputable def q_law_shift_0 (xs' : List Int) (step' : Int) : List Int :=
  q_law_shift_1 step' xs'
def v_law_shift_0 (xs' : List Int) (step' : Int) : Prop :=
  v_law_shift_1 step' xs'
noncomputable def q_law_shift (xs' : List Int) (step' : Int) : List Int :=
  q_law_shift_0 xs' step'
def v_law_shift (xs' : List Int) (step' : Int) : Prop :=
  v_law_shift_0 xs' step'
noncomputable def q_law_move_0 (part' : (List Int) × Int) (step' : Int) : (List Int) × Int :=
  (q_law_shift part'.1 step', part'.2)
def v_law_move_0 (part' : (List Int) × Int) (step' : Int) : Prop :=
  v_law_shift part'.1 step'
noncomputable def q_law_move (part' : (List Int) × Int) (step' : Int) : (List Int) × Int :=
  q_law_move_0 part' step'
def v_law_move (part' : (List Int) × Int) (step' : Int) : Prop :=
  v_law_move_0 part' step'
noncomputable def q_law_mul_3 (xs' : List Int) (ys' : List Int) (found' : List Int) (i' : Int) (j' : Int) : (List Int) :=
  setT found' (i' + j') ((gt found' (i' + j')) + ((gt xs' i') * (gt ys' j')))
def v_law_mul_3 (xs' : List Int) (ys' : List Int) (found' : List Int) (i' : Int) (j' : Int) : Prop :=
  (inR found' (i' + j') ∧ inR xs' i' ∧ inR ys' j' ∧ mulOk (gt xs' i') (gt ys' j') = true ∧ inR found' (i' + j'))
noncomputable def q_law_mul_2 (xs' : List Int) (ys' : List Int) (found' : List Int) (i' : Int) : (List Int) :=
  (fun s6 => s6) ((rngT 0 (ys'.length : Int)).foldl (fun (s3 : (List Int)) (x4 : Int) => q_law_mul_3 xs' ys' s3 i' x4) found')
def v_law_mul_2 (xs' : List Int) (ys' : List Int) (found' : List Int) (i' : Int) : Prop :=
  (rOk (ys'.length : Int) = true ∧ forV (fun (s3 : (List Int)) (x4 : Int) => v_law_mul_3 xs' ys' s3 i' x4) (fun (s3 : (List Int)) (x4 : Int) => q_law_mul_3 xs' ys' s3 i' x4) (rngT 0 (ys'.length : Int)) found')
noncomputable def q_law_mul_4 (xs' : List Int) (ys' : List Int) (found' : List Int) : (List Int) :=
  (rngT 0 (xs'.length : Int)).foldl (fun (s7 : (List Int)) (x8 : Int) => q_law_mul_2 xs' ys' s7 x8) found'
noncomputable def q_law_mul_5 (found' : List Int) : List Int :=
  q_law_trim found'
def v_law_mul_5 (found' : List Int) : Prop :=
  v_law_trim found'
noncomputable def q_law_mul_1 (xs' : List Int) (ys' : List Int) (found' : List Int) : List Int :=
  q_law_mul_5 (q_law_mul_4 xs' ys' found')
def v_law_mul_1 (xs' : List Int) (ys' : List Int) (found' : List Int) : Prop :=
  (rOk (xs'.length : Int) = true ∧ forV (fun (s7 : (List Int)) (x8 : Int) => v_law_mul_2 xs' ys' s7 x8) (fun (s7 : (List Int)) (x8 : Int) => q_law_mul_2 xs' ys' s7 x8) (rngT 0 (xs'.length : Int)) found' ∧ v_law_mul_5 (q_law_mul_4 xs' ys' found'))
noncomputable def q_law_mul_0 (xs' : List Int) (ys' : List Int) : List Int :=
  q_law_mul_1 xs' ys' ((rngT 0 ((xs'.length : Int) + (ys'.length : Int))).map fun (x1 : Int) => (0 : Int))
def v_law_mul_0 (xs' : List Int) (ys' : List Int) : Prop :=
  (rOk ((xs'.length : Int) + (ys'.length : Int)) = true ∧ (rngT 0 ((xs'.length : Int) + (ys'.length : Int))).length ≤ LINE ∧ v_law_mul_1 xs' ys' ((rngT 0 ((xs'.length : Int) + (ys'.length : Int))).map fun (x1 : Int) => (0 : Int)))
noncomputable def q_law_mul (xs' : List Int) (ys' : List Int) : List Int :=
  q_law_mul_0 xs' ys'
def v_law_mul (xs' : List Int) (ys' : List Int) : Prop :=
  v_law_mul_0 xs' ys'
noncomputable def q_law_times_0 (a' : (List Int) × Int) (b' : (List Int) × Int) : (List Int) × Int :=
  (q_law_mul a'.1 b'.1, (a'.2 * b'.2))
def v_law_times_0 (a' : (List Int) × Int) (b' : (List Int) × Int) : Prop :=
  (v_law_mul a'.1 b'.1 ∧ mulOk a'.2 b'.2 = true)
noncomputable def q_law_times (a' : (List Int) × Int) (b' : (List Int) × Int) : (List Int) × Int :=
  q_law_times_0 a' b'
def v_law_times (a' : (List Int) × Int) (b' : (List Int) × Int) : Prop :=
  v_law_times_0 a' b'
noncomputable def q_law_plus_0 (a' : (List Int) × Int) (b' : (List Int) × Int) : (List Int) × Int :=
  (q_law_sum_x2 (q_law_scale a'.1 b'.2) (q_law_scale b'.1 a'.2), (a'.2 * b'.2))
def v_law_plus_0 (a' : (List Int) × Int) (b' : (List Int) × Int) : Prop :=
  (v_law_scale a'.1 b'.2 ∧ v_law_scale b'.1 a'.2 ∧ v_law_sum_x2 (q_law_scale a'.1 b'.2) (q_law_scale b'.1 a'.2) ∧ mulOk a'.2 b'.2 = true)
noncomputable def q_law_plus (a' : (List Int) × Int) (b' : (List Int) × Int) : (List Int) × Int :=
  q_law_plus_0 a' b'
def v_law_plus (a' : (List Int) × Int) (b' : (List Int) × Int) : Prop :=
  v_law_plus_0 a' b'
noncomputable def q_law_poly_0 (part' : (List Int) × Int) : Po :=
  q_Poly_init part'.1 part'.2
def v_law_poly_0 (part' : (List Int) × Int) : Prop :=
  v_Poly_init part'.1 part'.2
noncomputable def q_law_poly (part' : (List Int) × Int) : Po :=
  q_law_poly_0 part'
def v_law_poly (part' : (List Int) × Int) : Prop :=
  v_law_poly_0 part'
noncomputable def q_Poly2_init_2 (kept' : List Po) : (List Po) :=
  kept'.dropLast
def v_Poly2_init_2 (kept' : List Po) : Prop :=
  kept' ≠ []
noncomputable def q_Poly2_init_3 (kept' : List Po) : (List Po) :=
  wh (fun (s1 : (List Po)) => ((decide ((s1.length : Int) > (0 : Int))) && (q_Poly_is_zero (gt s1 (-(1 : Int)))))) (fun (s1 : (List Po)) => q_Poly2_init_2 s1) kept'
noncomputable def q_Poly2_init_4 (kept' : List Po) : (List Po) :=
  kept'
noncomputable def q_Poly2_init_1 (kept' : List Po) : (List Po) :=
  q_Poly2_init_4 (q_Poly2_init_3 kept')
def v_Poly2_init_1 (kept' : List Po) : Prop :=
  whV (fun (s1 : (List Po)) => ((decide ((s1.length : Int) > (0 : Int))) && (q_Poly_is_zero (gt s1 (-(1 : Int)))))) (fun (s1 : (List Po)) => ((decide ((s1.length : Int) > (0 : Int))) = true → inR s1 (-(1 : Int)))) (fun (s1 : (List Po)) => q_Poly2_init_2 s1) (fun (s1 : (List Po)) => v_Poly2_init_2 s1) kept'
noncomputable def q_Poly2_init_0 (rows' : List Po) : (List Po) :=
  q_Poly2_init_1 rows'
def v_Poly2_init_0 (rows' : List Po) : Prop :=
  v_Poly2_init_1 rows'
noncomputable def q_Poly2_init (rows' : List Po) : Po2 :=
  ⟨(q_Poly2_init_0 rows')⟩
def v_Poly2_init (rows' : List Po) : Prop :=
  v_Poly2_init_0 rows'
noncomputable def q_law_drawn_2 (order' : Int) (parts' : List ((List Int) × Int)) : (List ((List Int) × Int)) :=
  setT parts' order' ([(1 : Int)], (1 : Int))
def v_law_drawn_2 (order' : Int) (parts' : List ((List Int) × Int)) : Prop :=
  inR parts' order'
noncomputable def q_law_drawn_3 (order' : Int) (parts' : List ((List Int) × Int)) : (List ((List Int) × Int)) :=
  if ((decide ((parts'.length : Int) > (0 : Int))) && (decide ((((gt parts' order').1).length : Int) = (0 : Int)))) then q_law_drawn_2 order' parts' else parts'
noncomputable def q_law_drawn_4 (parts' : List ((List Int) × Int)) : List ((List Int) × Int) :=
  parts'
noncomputable def q_law_drawn_1 (order' : Int) (parts' : List ((List Int) × Int)) : List ((List Int) × Int) :=
  q_law_drawn_4 (q_law_drawn_3 order' parts')
def v_law_drawn_1 (order' : Int) (parts' : List ((List Int) × Int)) : Prop :=
  (((decide ((parts'.length : Int) > (0 : Int))) = true → inR parts' order') ∧ (((decide ((parts'.length : Int) > (0 : Int))) && (decide ((((gt parts' order').1).length : Int) = (0 : Int)))) = true → v_law_drawn_2 order' parts'))
noncomputable def q_law_drawn_0 (script' : List Int) (at_here' : Int) (order' : Int) (most' : Int) : List ((List Int) × Int) :=
  q_law_drawn_1 order' ((rngT 0 (order' + (1 : Int))).map fun (x1 : Int) => q_law_draw (q_law_cell script' (at_here' + x1)) most')
def v_law_drawn_0 (script' : List Int) (at_here' : Int) (order' : Int) (most' : Int) : Prop :=
  (rOk (order' + (1 : Int)) = true ∧ (∀ x1, x1 ∈ (rngT 0 (order' + (1 : Int))) → (v_law_cell script' (at_here' + x1) ∧ v_law_draw (q_law_cell script' (at_here' + x1)) most')) ∧ (rngT 0 (order' + (1 : Int))).length ≤ LINE ∧ v_law_drawn_1 order' ((rngT 0 (order' + (1 : Int))).map fun (x1 : Int) => q_law_draw (q_law_cell script' (at_here' + x1)) most'))
noncomputable def q_law_drawn (script' : List Int) (at_here' : Int) (order' : Int) (most' : Int) : List ((List Int) × Int) :=
  q_law_drawn_0 script' at_here' order' most'
def v_law_drawn (script' : List Int) (at_here' : Int) (order' : Int) (most' : Int) : Prop :=
  v_law_drawn_0 script' at_here' order' most'
noncomputable def q_law_cut_3 (parts' : List ((List Int) × Int)) (size' : Int) (k' : Int) : Int :=
  (k' + (1 : Int))
noncomputable def q_law_cut_2 (parts' : List ((List Int) × Int)) (size' : Int) (k' : Int) : Int :=
  if (decide ((((gt parts' k').1).length : Int) > (0 : Int))) then q_law_cut_3 parts' size' k' else size'
def v_law_cut_2 (parts' : List ((List Int) × Int)) (size' : Int) (k' : Int) : Prop :=
  inR parts' k'
noncomputable def q_law_cut_4 (parts' : List ((List Int) × Int)) (size' : Int) : Int :=
  (rngT 0 (parts'.length : Int)).foldl (fun (s2 : Int) (x3 : Int) => q_law_cut_2 parts' s2 x3) size'
noncomputable def q_law_cut_5 (parts' : List ((List Int) × Int)) (size' : Int) : List ((List Int) × Int) :=
  (cutT parts' none (some size'))
noncomputable def q_law_cut_1 (parts' : List ((List Int) × Int)) (size' : Int) : List ((List Int) × Int) :=
  q_law_cut_5 parts' (q_law_cut_4 parts' size')
def v_law_cut_1 (parts' : List ((List Int) × Int)) (size' : Int) : Prop :=
  (rOk (parts'.length : Int) = true ∧ forV (fun (s2 : Int) (x3 : Int) => v_law_cut_2 parts' s2 x3) (fun (s2 : Int) (x3 : Int) => q_law_cut_2 parts' s2 x3) (rngT 0 (parts'.length : Int)) size')
noncomputable def q_law_cut_0 (parts' : List ((List Int) × Int)) : List ((List Int) × Int) :=
  q_law_cut_1 parts' (0 : Int)
def v_law_cut_0 (parts' : List ((List Int) × Int)) : Prop :=
  v_law_cut_1 parts' (0 : Int)
noncomputable def q_law_cut (parts' : List ((List Int) × Int)) : List ((List Int) × Int) :=
  q_law_cut_0 parts'
def v_law_cut (parts' : List ((List Int) × Int)) : Prop :=
  v_law_cut_0 parts'
noncomputable def q_law_vector_0 (pairs_here' : List (Int × Int)) : List Fr :=
  (pairs_here'.map fun (x1 : Int × Int) => q_Fraction_init x1.1 x1.2)
def v_law_vector_0 (pairs_here' : List (Int × Int)) : Prop :=
  ((∀ x1, x1 ∈ pairs_here' → v_Fraction_init x1.1 x1.2) ∧ pairs_here'.length ≤ LINE)
noncomputable def q_law_vector (pairs_here' : List (Int × Int)) : List Fr :=
  q_law_vector_0 pairs_here'
def v_law_vector (pairs_here' : List (Int × Int)) : Prop :=
  v_law_vector_0 pairs_here'
noncomputable def q_Operator_init_2 (kept' : List Po) : (List Po) :=
  kept'.dropLast
def v_Operator_init_2 (kept' : List Po) : Prop :=
  kept' ≠ []
noncomputable def q_Operator_init_3 (kept' : List Po) : (List Po) :=
  wh (fun (s1 : (List Po)) => ((decide ((s1.length : Int) > (0 : Int))) && (q_Poly_is_zero (gt s1 (-(1 : Int)))))) (fun (s1 : (List Po)) => q_Operator_init_2 s1) kept'
noncomputable def q_Operator_init_4 (kept' : List Po) : (List Po) :=
  kept'
noncomputable def q_Operator_init_1 (kept' : List Po) : (List Po) :=
  q_Operator_init_4 (q_Operator_init_3 kept')
def v_Operator_init_1 (kept' : List Po) : Prop :=
  whV (fun (s1 : (List Po)) => ((decide ((s1.length : Int) > (0 : Int))) && (q_Poly_is_zero (gt s1 (-(1 : Int)))))) (fun (s1 : (List Po)) => ((decide ((s1.length : Int) > (0 : Int))) = true → inR s1 (-(1 : Int)))) (fun (s1 : (List Po)) => q_Operator_init_2 s1) (fun (s1 : (List Po)) => v_Operator_init_2 s1) kept'
noncomputable def q_Operator_init_0 (coefs' : List Po) : (List Po) :=
  q_Operator_init_1 coefs'
def v_Operator_init_0 (coefs' : List Po) : Prop :=
  v_Operator_init_1 coefs'
noncomputable def q_Operator_init (coefs' : List Po) : Opr :=
  ⟨(q_Operator_init_0 coefs')⟩
def v_Operator_init (coefs' : List Po) : Prop :=
  v_Operator_init_0 coefs'
noncomputable def q_law_operator_0 (parts' : List ((List Int) × Int)) : Opr :=
  q_Operator_init (parts'.map fun (x1 : (List Int) × Int) => q_law_poly x1)
def v_law_operator_0 (parts' : List ((List Int) × Int)) : Prop :=
  ((∀ x1, x1 ∈ parts' → v_law_poly x1) ∧ parts'.length ≤ LINE ∧ v_Operator_init (parts'.map fun (x1 : (List Int) × Int) => q_law_poly x1))
noncomputable def q_law_operator (parts' : List ((List Int) × Int)) : Opr :=
  q_law_operator_0 parts'
def v_law_operator (parts' : List ((List Int) × Int)) : Prop :=
  v_law_operator_0 parts'
noncomputable def q_Operator_apply_at_2 (values' : List Fr) (n' : Int) (total' : Fr) (j' : Int) (p' : Po) : Fr :=
  q_Fraction_add total' (q_Fraction_mul (q_Poly_at p' n') (gt values' (n' + j')))
def v_Operator_apply_at_2 (values' : List Fr) (n' : Int) (total' : Fr) (j' : Int) (p' : Po) : Prop :=
  (v_Poly_at p' n' ∧ inR values' (n' + j') ∧ v_Fraction_mul (q_Poly_at p' n') (gt values' (n' + j')) ∧ v_Fraction_add total' (q_Fraction_mul (q_Poly_at p' n') (gt values' (n' + j'))))
noncomputable def q_Operator_apply_at_3 (self' : Opr) (values' : List Fr) (n' : Int) (total' : Fr) : Fr :=
  (enT self'.coefs).foldl (fun (s1 : Fr) (x2 : Int × Po) => q_Operator_apply_at_2 values' n' s1 x2.1 x2.2) total'
noncomputable def q_Operator_apply_at_4 (total' : Fr) : Fr :=
  total'
noncomputable def q_Operator_apply_at_1 (self' : Opr) (values' : List Fr) (n' : Int) (total' : Fr) : Fr :=
  q_Operator_apply_at_4 (q_Operator_apply_at_3 self' values' n' total')
def v_Operator_apply_at_1 (self' : Opr) (values' : List Fr) (n' : Int) (total' : Fr) : Prop :=
  forV (fun (s1 : Fr) (x2 : Int × Po) => v_Operator_apply_at_2 values' n' s1 x2.1 x2.2) (fun (s1 : Fr) (x2 : Int × Po) => q_Operator_apply_at_2 values' n' s1 x2.1 x2.2) (enT self'.coefs) total'
noncomputable def q_Operator_apply_at_0 (self' : Opr) (values' : List Fr) (n' : Int) : Fr :=
  q_Operator_apply_at_1 self' values' n' (q_Fraction_init (0 : Int) (1 : Int))
def v_Operator_apply_at_0 (self' : Opr) (values' : List Fr) (n' : Int) : Prop :=
  (v_Fraction_init (0 : Int) (1 : Int) ∧ v_Operator_apply_at_1 self' values' n' (q_Fraction_init (0 : Int) (1 : Int)))
noncomputable def q_Operator_apply_at (self' : Opr) (values' : List Fr) (n' : Int) : Fr :=
  q_Operator_apply_at_0 self' values' n'
def v_Operator_apply_at (self' : Opr) (values' : List Fr) (n' : Int) : Prop :=
  v_Operator_apply_at_0 self' values' n'
noncomputable def q_law_is_whole_0 (x' : Int) : Bool :=
  (true && (!false))
noncomputable def q_law_is_whole (x' : Int) : Bool :=
  q_law_is_whole_0 x'
noncomputable def q_law_is_x2_1  : Bool :=
  false
noncomputable def q_law_is_x2_2 (x' : Fr) (pair' : Int × Int) : Bool :=
  (decide ((x'.num * pair'.2) = (pair'.1 * x'.den)))
def v_law_is_x2_2 (x' : Fr) (pair' : Int × Int) : Prop :=
  (mulOk x'.num pair'.2 = true ∧ mulOk pair'.1 x'.den = true)
noncomputable def q_law_is_x2_0 (x' : Fr) (pair' : Int × Int) : Bool :=
  if ((!true) || ((!(q_law_is_whole x'.num)) || ((!(q_law_is_whole x'.den)) || (decide (x'.den < (1 : Int)))))) then q_law_is_x2_1 else q_law_is_x2_2 x' pair'
def v_law_is_x2_0 (x' : Fr) (pair' : Int × Int) : Prop :=
  (((!true) || ((!(q_law_is_whole x'.num)) || ((!(q_law_is_whole x'.den)) || (decide (x'.den < (1 : Int)))))) = false → v_law_is_x2_2 x' pair')
noncomputable def q_law_is_x2 (x' : Fr) (pair' : Int × Int) : Bool :=
  q_law_is_x2_0 x' pair'
def v_law_is_x2 (x' : Fr) (pair' : Int × Int) : Prop :=
  v_law_is_x2_0 x' pair'
noncomputable def q_Operator_mul_3 (other' : Opr) (parts' : List Po) (i' : Int) (a' : Po) (j' : Int) (b' : Po) : (List Po) :=
  setT parts' (i' + j') (q_Poly_add (gt parts' (i' + j')) (q_Poly_mul a' (q_Poly_shifted b' i')))
def v_Operator_mul_3 (other' : Opr) (parts' : List Po) (i' : Int) (a' : Po) (j' : Int) (b' : Po) : Prop :=
  (inR parts' (i' + j') ∧ v_Poly_shifted b' i' ∧ v_Poly_mul a' (q_Poly_shifted b' i') ∧ v_Poly_add (gt parts' (i' + j')) (q_Poly_mul a' (q_Poly_shifted b' i')) ∧ inR parts' (i' + j'))
noncomputable def q_Operator_mul_2 (other' : Opr) (parts' : List Po) (i' : Int) (a' : Po) : (List Po) :=
  (fun s6 => s6) ((enT other'.coefs).foldl (fun (s3 : (List Po)) (x4 : Int × Po) => q_Operator_mul_3 other' s3 i' a' x4.1 x4.2) parts')
def v_Operator_mul_2 (other' : Opr) (parts' : List Po) (i' : Int) (a' : Po) : Prop :=
  forV (fun (s3 : (List Po)) (x4 : Int × Po) => v_Operator_mul_3 other' s3 i' a' x4.1 x4.2) (fun (s3 : (List Po)) (x4 : Int × Po) => q_Operator_mul_3 other' s3 i' a' x4.1 x4.2) (enT other'.coefs) parts'
noncomputable def q_Operator_mul_4 (self' : Opr) (other' : Opr) (parts' : List Po) : (List Po) :=
  (enT self'.coefs).foldl (fun (s7 : (List Po)) (x8 : Int × Po) => q_Operator_mul_2 other' s7 x8.1 x8.2) parts'
noncomputable def q_Operator_mul_5 (parts' : List Po) : Opr :=
  q_Operator_init parts'
def v_Operator_mul_5 (parts' : List Po) : Prop :=
  v_Operator_init parts'
noncomputable def q_Operator_mul_1 (self' : Opr) (other' : Opr) (parts' : List Po) : Opr :=
  q_Operator_mul_5 (q_Operator_mul_4 self' other' parts')
def v_Operator_mul_1 (self' : Opr) (other' : Opr) (parts' : List Po) : Prop :=
  (forV (fun (s7 : (List Po)) (x8 : Int × Po) => v_Operator_mul_2 other' s7 x8.1 x8.2) (fun (s7 : (List Po)) (x8 : Int × Po) => q_Operator_mul_2 other' s7 x8.1 x8.2) (enT self'.coefs) parts' ∧ v_Operator_mul_5 (q_Operator_mul_4 self' other' parts'))
noncomputable def q_Operator_mul_0 (self' : Opr) (other' : Opr) : Opr :=
  q_Operator_mul_1 self' other' ((rngT 0 ((self'.coefs.length : Int) + (other'.coefs.length : Int))).map fun (x1 : Int) => q_Poly_init ([] : List Int) (1 : Int))
def v_Operator_mul_0 (self' : Opr) (other' : Opr) : Prop :=
  (rOk ((self'.coefs.length : Int) + (other'.coefs.length : Int)) = true ∧ (∀ x1, x1 ∈ (rngT 0 ((self'.coefs.length : Int) + (other'.coefs.length : Int))) → v_Poly_init ([] : List Int) (1 : Int)) ∧ (rngT 0 ((self'.coefs.length : Int) + (other'.coefs.length : Int))).length ≤ LINE ∧ v_Operator_mul_1 self' other' ((rngT 0 ((self'.coefs.length : Int) + (other'.coefs.length : Int))).map fun (x1 : Int) => q_Poly_init ([] : List Int) (1 : Int)))
noncomputable def q_Operator_mul (self' : Opr) (other' : Opr) : Opr :=
  q_Operator_mul_0 self' other'
def v_Operator_mul (self' : Opr) (other' : Opr) : Prop :=
  v_Operator_mul_0 self' other'
noncomputable def q_law_read_1  : Option ((List Int) × Int) :=
  none
noncomputable def q_law_read_3  : Option ((List Int) × Int) :=
  none
noncomputable def q_law_read_6  : Option ((List Int) × Int) :=
  none
noncomputable def q_law_read_5 (p' : Po) (x' : Int) : Fl Unit Unit (Option ((List Int) × Int)) :=
  if (!(q_law_is_whole x')) then .rt q_law_read_6 else .nx ()
noncomputable def q_law_read_7 (p' : Po) : Fl Unit Empty (Option ((List Int) × Int)) :=
  forX (fun (s6 : Unit) (x7 : Int) => q_law_read_5 p' x7) p'.coefs ()
noncomputable def q_law_read_8 (p' : Po) : Option ((List Int) × Int) :=
  some (q_law_trim p'.coefs, p'.den)
def v_law_read_8 (p' : Po) : Prop :=
  v_law_trim p'.coefs
noncomputable def q_law_read_4 (p' : Po) : Option ((List Int) × Int) :=
  (q_law_read_7 p').fin fun s9 => q_law_read_8 p'
def v_law_read_4 (p' : Po) : Prop :=
  (∀ s9, q_law_read_7 p' = .nx s9 → v_law_read_8 p')
noncomputable def q_law_read_2 (p' : Po) : Option ((List Int) × Int) :=
  if ((!(q_law_is_whole p'.den)) || (decide (p'.den < (1 : Int)))) then q_law_read_3 else q_law_read_4 p'
def v_law_read_2 (p' : Po) : Prop :=
  (((!(q_law_is_whole p'.den)) || (decide (p'.den < (1 : Int)))) = false → v_law_read_4 p')
noncomputable def q_law_read_0 (p' : Po) : Option ((List Int) × Int) :=
  if ((!true) || (!true)) then q_law_read_1 else q_law_read_2 p'
def v_law_read_0 (p' : Po) : Prop :=
  (((!true) || (!true)) = false → v_law_read_2 p')
noncomputable def q_law_read (p' : Po) : Option ((List Int) × Int) :=
  q_law_read_0 p'
def v_law_read (p' : Po) : Prop :=
  v_law_read_0 p'
noncomputable def q_law_cut_x2_3 (parts' : List (Option ((List Int) × Int))) (size' : Int) (k' : Int) : Int :=
  (k' + (1 : Int))
noncomputable def q_law_cut_x2_2 (parts' : List (Option ((List Int) × Int))) (size' : Int) (k' : Int) : Int :=
  if (decide (((((gt parts' k').getD default).1).length : Int) > (0 : Int))) then q_law_cut_x2_3 parts' size' k' else size'
def v_law_cut_x2_2 (parts' : List (Option ((List Int) × Int))) (size' : Int) (k' : Int) : Prop :=
  (inR parts' k' ∧ (gt parts' k').isSome = true)
noncomputable def q_law_cut_x2_4 (parts' : List (Option ((List Int) × Int))) (size' : Int) : Int :=
  (rngT 0 (parts'.length : Int)).foldl (fun (s2 : Int) (x3 : Int) => q_law_cut_x2_2 parts' s2 x3) size'
noncomputable def q_law_cut_x2_5 (parts' : List (Option ((List Int) × Int))) (size' : Int) : List (Option ((List Int) × Int)) :=
  (cutT parts' none (some size'))
noncomputable def q_law_cut_x2_1 (parts' : List (Option ((List Int) × Int))) (size' : Int) : List (Option ((List Int) × Int)) :=
  q_law_cut_x2_5 parts' (q_law_cut_x2_4 parts' size')
def v_law_cut_x2_1 (parts' : List (Option ((List Int) × Int))) (size' : Int) : Prop :=
  (rOk (parts'.length : Int) = true ∧ forV (fun (s2 : Int) (x3 : Int) => v_law_cut_x2_2 parts' s2 x3) (fun (s2 : Int) (x3 : Int) => q_law_cut_x2_2 parts' s2 x3) (rngT 0 (parts'.length : Int)) size')
noncomputable def q_law_cut_x2_0 (parts' : List (Option ((List Int) × Int))) : List (Option ((List Int) × Int)) :=
  q_law_cut_x2_1 parts' (0 : Int)
def v_law_cut_x2_0 (parts' : List (Option ((List Int) × Int))) : Prop :=
  v_law_cut_x2_1 parts' (0 : Int)
noncomputable def q_law_cut_x2 (parts' : List (Option ((List Int) × Int))) : List (Option ((List Int) × Int)) :=
  q_law_cut_x2_0 parts'
def v_law_cut_x2 (parts' : List (Option ((List Int) × Int))) : Prop :=
  v_law_cut_x2_0 parts'
noncomputable def q_law_read_operator_1  : Option (List (Option ((List Int) × Int))) :=
  none
noncomputable def q_law_read_operator_4  : Option (List (Option ((List Int) × Int))) :=
  none
noncomputable def q_law_read_operator_5 (found' : List (Option ((List Int) × Int))) : Option (List (Option ((List Int) × Int))) :=
  found'
noncomputable def q_law_read_operator_3 (found' : List (Option ((List Int) × Int))) : Option (List (Option ((List Int) × Int))) :=
  if ((decide ((none : Option ((List Int) × Int)) ∈ found')) || (!decide (((q_law_cut_x2 found').length : Int) = (found'.length : Int)))) then q_law_read_operator_4 else q_law_read_operator_5 found'
def v_law_read_operator_3 (found' : List (Option ((List Int) × Int))) : Prop :=
  ((decide ((none : Option ((List Int) × Int)) ∈ found')) = false → v_law_cut_x2 found')
noncomputable def q_law_read_operator_2 (operator_here' : Opr) : Option (List (Option ((List Int) × Int))) :=
  q_law_read_operator_3 (operator_here'.coefs.map fun (x3 : Po) => q_law_read x3)
def v_law_read_operator_2 (operator_here' : Opr) : Prop :=
  ((∀ x3, x3 ∈ operator_here'.coefs → v_law_read x3) ∧ operator_here'.coefs.length ≤ LINE ∧ v_law_read_operator_3 (operator_here'.coefs.map fun (x3 : Po) => q_law_read x3))
noncomputable def q_law_read_operator_0 (operator_here' : Opr) : Option (List (Option ((List Int) × Int))) :=
  if ((!true) || (!true)) then q_law_read_operator_1 else q_law_read_operator_2 operator_here'
def v_law_read_operator_0 (operator_here' : Opr) : Prop :=
  (((!true) || (!true)) = false → v_law_read_operator_2 operator_here')
noncomputable def q_law_read_operator (operator_here' : Opr) : Option (List (Option ((List Int) × Int))) :=
  q_law_read_operator_0 operator_here'
def v_law_read_operator (operator_here' : Opr) : Prop :=
  v_law_read_operator_0 operator_here'
noncomputable def q_law_after_3 (first' : List ((List Int) × Int)) (second' : List ((List Int) × Int)) (found' : List ((List Int) × Int)) (i' : Int) (j' : Int) : (List ((List Int) × Int)) :=
  setT found' (i' + j') (q_law_plus (gt found' (i' + j')) (q_law_times (gt first' i') (q_law_move (gt second' j') i')))
def v_law_after_3 (first' : List ((List Int) × Int)) (second' : List ((List Int) × Int)) (found' : List ((List Int) × Int)) (i' : Int) (j' : Int) : Prop :=
  (inR found' (i' + j') ∧ inR first' i' ∧ inR second' j' ∧ v_law_move (gt second' j') i' ∧ v_law_times (gt first' i') (q_law_move (gt second' j') i') ∧ v_law_plus (gt found' (i' + j')) (q_law_times (gt first' i') (q_law_move (gt second' j') i')) ∧ inR found' (i' + j'))
noncomputable def q_law_after_2 (first' : List ((List Int) × Int)) (second' : List ((List Int) × Int)) (found' : List ((List Int) × Int)) (i' : Int) : (List ((List Int) × Int)) :=
  (fun s6 => s6) ((rngT 0 (second'.length : Int)).foldl (fun (s3 : (List ((List Int) × Int))) (x4 : Int) => q_law_after_3 first' second' s3 i' x4) found')
def v_law_after_2 (first' : List ((List Int) × Int)) (second' : List ((List Int) × Int)) (found' : List ((List Int) × Int)) (i' : Int) : Prop :=
  (rOk (second'.length : Int) = true ∧ forV (fun (s3 : (List ((List Int) × Int))) (x4 : Int) => v_law_after_3 first' second' s3 i' x4) (fun (s3 : (List ((List Int) × Int))) (x4 : Int) => q_law_after_3 first' second' s3 i' x4) (rngT 0 (second'.length : Int)) found')
noncomputable def q_law_after_4 (first' : List ((List Int) × Int)) (second' : List ((List Int) × Int)) (found' : List ((List Int) × Int)) : (List ((List Int) × Int)) :=
  (rngT 0 (first'.length : Int)).foldl (fun (s7 : (List ((List Int) × Int))) (x8 : Int) => q_law_after_2 first' second' s7 x8) found'
noncomputable def q_law_after_5 (found' : List ((List Int) × Int)) : List ((List Int) × Int) :=
  q_law_cut found'
def v_law_after_5 (found' : List ((List Int) × Int)) : Prop :=
  v_law_cut found'
noncomputable def q_law_after_1 (first' : List ((List Int) × Int)) (second' : List ((List Int) × Int)) (found' : List ((List Int) × Int)) : List ((List Int) × Int) :=
  q_law_after_5 (q_law_after_4 first' second' found')
def v_law_after_1 (first' : List ((List Int) × Int)) (second' : List ((List Int) × Int)) (found' : List ((List Int) × Int)) : Prop :=
  (rOk (first'.length : Int) = true ∧ forV (fun (s7 : (List ((List Int) × Int))) (x8 : Int) => v_law_after_2 first' second' s7 x8) (fun (s7 : (List ((List Int) × Int))) (x8 : Int) => q_law_after_2 first' second' s7 x8) (rngT 0 (first'.length : Int)) found' ∧ v_law_after_5 (q_law_after_4 first' second' found'))
noncomputable def q_law_after_0 (first' : List ((List Int) × Int)) (second' : List ((List Int) × Int)) : List ((List Int) × Int) :=
  q_law_after_1 first' second' ((rngT 0 ((first'.length : Int) + (second'.length : Int))).map fun (x1 : Int) => (([] : List Int), (1 : Int)))
def v_law_after_0 (first' : List ((List Int) × Int)) (second' : List ((List Int) × Int)) : Prop :=
  (rOk ((first'.length : Int) + (second'.length : Int)) = true ∧ (rngT 0 ((first'.length : Int) + (second'.length : Int))).length ≤ LINE ∧ v_law_after_1 first' second' ((rngT 0 ((first'.length : Int) + (second'.length : Int))).map fun (x1 : Int) => (([] : List Int), (1 : Int))))
noncomputable def q_law_after (first' : List ((List Int) × Int)) (second' : List ((List Int) × Int)) : List ((List Int) × Int) :=
  q_law_after_0 first' second'
def v_law_after (first' : List ((List Int) × Int)) (second' : List ((List Int) × Int)) : Prop :=
  v_law_after_0 first' second'
noncomputable def q_law_alike_0 (a' : Option ((List Int) × Int)) (b' : (List Int) × Int) : Bool :=
  (decide ((q_law_scale ((a'.getD default).1) b'.2) = (q_law_scale b'.1 ((a'.getD default).2))))
def v_law_alike_0 (a' : Option ((List Int) × Int)) (b' : (List Int) × Int) : Prop :=
  (a'.isSome = true ∧ v_law_scale ((a'.getD default).1) b'.2 ∧ a'.isSome = true ∧ v_law_scale b'.1 ((a'.getD default).2))
noncomputable def q_law_alike (a' : Option ((List Int) × Int)) (b' : (List Int) × Int) : Bool :=
  q_law_alike_0 a' b'
def v_law_alike (a' : Option ((List Int) × Int)) (b' : (List Int) × Int) : Prop :=
  v_law_alike_0 a' b'
noncomputable def q_law_same_1  : Bool :=
  false
noncomputable def q_law_same_4  : Bool :=
  false
noncomputable def q_law_same_3 (found' : Option (List (Option ((List Int) × Int)))) (parts' : List ((List Int) × Int)) (k' : Int) : Fl Unit Unit Bool :=
  if (!(q_law_alike (gt (found'.getD default) k') (gt parts' k'))) then .rt q_law_same_4 else .nx ()
def v_law_same_3 (found' : Option (List (Option ((List Int) × Int)))) (parts' : List ((List Int) × Int)) (k' : Int) : Prop :=
  (found'.isSome = true ∧ inR (found'.getD default) k' ∧ inR parts' k' ∧ v_law_alike (gt (found'.getD default) k') (gt parts' k'))
noncomputable def q_law_same_5 (found' : Option (List (Option ((List Int) × Int)))) (parts' : List ((List Int) × Int)) : Fl Unit Empty Bool :=
  forX (fun (s4 : Unit) (x5 : Int) => q_law_same_3 found' parts' x5) (rngT 0 (parts'.length : Int)) ()
noncomputable def q_law_same_6  : Bool :=
  true
noncomputable def q_law_same_2 (found' : Option (List (Option ((List Int) × Int)))) (parts' : List ((List Int) × Int)) : Bool :=
  (q_law_same_5 found' parts').fin fun s7 => q_law_same_6
def v_law_same_2 (found' : Option (List (Option ((List Int) × Int)))) (parts' : List ((List Int) × Int)) : Prop :=
  (rOk (parts'.length : Int) = true ∧ forVX (fun (s4 : Unit) (x5 : Int) => v_law_same_3 found' parts' x5) (fun (s4 : Unit) (x5 : Int) => q_law_same_3 found' parts' x5) (rngT 0 (parts'.length : Int)) ())
noncomputable def q_law_same_0 (found' : Option (List (Option ((List Int) × Int)))) (parts' : List ((List Int) × Int)) : Bool :=
  if (found'.isNone || (!decide (((found'.getD default).length : Int) = (parts'.length : Int)))) then q_law_same_1 else q_law_same_2 found' parts'
def v_law_same_0 (found' : Option (List (Option ((List Int) × Int)))) (parts' : List ((List Int) × Int)) : Prop :=
  ((found'.isNone = false → found'.isSome = true) ∧ ((found'.isNone || (!decide (((found'.getD default).length : Int) = (parts'.length : Int)))) = false → v_law_same_2 found' parts'))
noncomputable def q_law_same (found' : Option (List (Option ((List Int) × Int)))) (parts' : List ((List Int) × Int)) : Bool :=
  q_law_same_0 found' parts'
def v_law_same (found' : Option (List (Option ((List Int) × Int)))) (parts' : List ((List Int) × Int)) : Prop :=
  v_law_same_0 found' parts'
noncomputable def q_law_are_1  : Bool :=
  false
noncomputable def q_law_are_4  : Bool :=
  false
noncomputable def q_law_are_3 (xs' : List Fr) (pairs_here' : List (Int × Int)) (k' : Int) : Fl Unit Unit Bool :=
  if (!(q_law_is_x2 (gt xs' k') (gt pairs_here' k'))) then .rt q_law_are_4 else .nx ()
def v_law_are_3 (xs' : List Fr) (pairs_here' : List (Int × Int)) (k' : Int) : Prop :=
  (inR xs' k' ∧ inR pairs_here' k' ∧ v_law_is_x2 (gt xs' k') (gt pairs_here' k'))
noncomputable def q_law_are_5 (xs' : List Fr) (pairs_here' : List (Int × Int)) : Fl Unit Empty Bool :=
  forX (fun (s4 : Unit) (x5 : Int) => q_law_are_3 xs' pairs_here' x5) (rngT 0 (pairs_here'.length : Int)) ()
noncomputable def q_law_are_6  : Bool :=
  true
noncomputable def q_law_are_2 (xs' : List Fr) (pairs_here' : List (Int × Int)) : Bool :=
  (q_law_are_5 xs' pairs_here').fin fun s7 => q_law_are_6
def v_law_are_2 (xs' : List Fr) (pairs_here' : List (Int × Int)) : Prop :=
  (rOk (pairs_here'.length : Int) = true ∧ forVX (fun (s4 : Unit) (x5 : Int) => v_law_are_3 xs' pairs_here' x5) (fun (s4 : Unit) (x5 : Int) => q_law_are_3 xs' pairs_here' x5) (rngT 0 (pairs_here'.length : Int)) ())
noncomputable def q_law_are_0 (xs' : List Fr) (pairs_here' : List (Int × Int)) : Bool :=
  if ((!true) || (!decide ((xs'.length : Int) = (pairs_here'.length : Int)))) then q_law_are_1 else q_law_are_2 xs' pairs_here'
def v_law_are_0 (xs' : List Fr) (pairs_here' : List (Int × Int)) : Prop :=
  (((!true) || (!decide ((xs'.length : Int) = (pairs_here'.length : Int)))) = false → v_law_are_2 xs' pairs_here')
noncomputable def q_law_are (xs' : List Fr) (pairs_here' : List (Int × Int)) : Bool :=
  q_law_are_0 xs' pairs_here'
def v_law_are (xs' : List Fr) (pairs_here' : List (Int × Int)) : Prop :=
  v_law_are_0 xs' pairs_here'
end Pd
set_option maxHeartbeats 2000000
namespace Pd
open PySem PySem.Spec L2
def frS (n d : Int) : Int := if d < 0 then -(Int.gcd n d : Int) else (Int.gcd n d : Int)
def frP (n d : Int) : Int := n.fdiv (frS n d)
def frQ (n d : Int) : Int := d.fdiv (frS n d)
theorem gcd_pos' {n d : Int} (hd : d ≠ 0) : 0 < (Int.gcd n d : Int) := by
  have : 0 < Int.gcd n d := Int.gcd_pos_of_ne_zero_right n hd
  omega
theorem frS_ne {n d : Int} (hd : d ≠ 0) : frS n d ≠ 0 := by
  have := gcd_pos' (n := n) hd
  unfold frS
  split <;> omega
theorem frS_dvd_n (n d : Int) : frS n d ∣ n := by
  unfold frS
  split
  · exact Int.neg_dvd.mpr (Int.gcd_dvd_left ..)
  · exact Int.gcd_dvd_left ..
theorem frS_dvd_d (n d : Int) : frS n d ∣ d := by
  unfold frS
  split
  · exact Int.neg_dvd.mpr (Int.gcd_dvd_right ..)
  · exact Int.gcd_dvd_right ..
theorem frP_mul {n d : Int} (hd : d ≠ 0) : frP n d * frS n d = n := by
  unfold frP
  obtain ⟨k, hk⟩ := frS_dvd_n n d
  have hs := frS_ne (n := n) hd
  generalize frS n d = s at *
  have : n.fdiv s = k := by rw [hk, Int.mul_comm, Int.mul_fdiv_cancel _ hs]
  rw [this, Int.mul_comm, ← hk]
theorem frQ_mul {n d : Int} (hd : d ≠ 0) : frQ n d * frS n d = d := by
  unfold frQ
  obtain ⟨k, hk⟩ := frS_dvd_d n d
  have hs := frS_ne (n := n) hd
  generalize frS n d = s at *
  have : d.fdiv s = k := by rw [hk, Int.mul_comm, Int.mul_fdiv_cancel _ hs]
  rw [this, Int.mul_comm, ← hk]
theorem frQ_pos {n d : Int} (hd : d ≠ 0) : 0 < frQ n d := by
  have h := frQ_mul (n := n) hd
  have g := gcd_pos' (n := n) hd
  rcases Int.lt_or_gt_of_ne hd with h0 | h0
  · have hs : frS n d < 0 := by unfold frS; rw [if_pos h0]; omega
    rcases Int.lt_trichotomy (frQ n d) 0 with q | q | q
    · have := Int.mul_pos_of_neg_of_neg q hs
      omega
    · rw [q, Int.zero_mul] at h; omega
    · exact q
  · have hs : 0 < frS n d := by unfold frS; rw [if_neg (by omega)]; omega
    rcases Int.lt_trichotomy (frQ n d) 0 with q | q | q
    · have := Int.mul_neg_of_neg_of_pos q hs
      omega
    · rw [q, Int.zero_mul] at h; omega
    · exact q
theorem fr_cross {n d : Int} (hd : d ≠ 0) : frP n d * d = n * frQ n d := by
  have h1 := frP_mul (n := n) hd
  have h2 := frQ_mul (n := n) hd
  calc frP n d * d = frP n d * (frQ n d * frS n d) := by rw [h2]
    _ = (frP n d * frS n d) * frQ n d := by rw [Int.mul_comm (frQ n d), ← Int.mul_assoc]
    _ = n * frQ n d := by rw [h1]
theorem fr_gcd {n d : Int} (hd : d ≠ 0) : Int.gcd (frP n d) (frQ n d) = 1 := by
  have h1 := frP_mul (n := n) hd
  have h2 := frQ_mul (n := n) hd
  have h3 : Int.gcd (frP n d * frS n d) (frQ n d * frS n d) = Int.gcd (frP n d) (frQ n d) * (frS n d).natAbs := Int.gcd_mul_right ..
  rw [h1, h2] at h3
  have h4 : (frS n d).natAbs = Int.gcd n d := by unfold frS; split <;> simp
  rw [h4] at h3
  have hp : 0 < Int.gcd n d := Int.gcd_pos_of_ne_zero_right n hd
  have := Nat.eq_of_mul_eq_mul_right hp (show Int.gcd (frP n d) (frQ n d) * Int.gcd n d = 1 * Int.gcd n d by omega)
  exact this
theorem natAbs_le_of_mul {a b c : Int} (h : a * b = c) (hb : b ≠ 0) : a.natAbs ≤ c.natAbs := by
  rw [← h, Int.natAbs_mul]
  exact Nat.le_mul_of_pos_right _ (Int.natAbs_pos.mpr hb)
theorem frP_le {n d : Int} (hd : d ≠ 0) : (frP n d).natAbs ≤ n.natAbs := natAbs_le_of_mul (frP_mul hd) (frS_ne hd)
theorem frQ_le {n d : Int} (hd : d ≠ 0) : (frQ n d).natAbs ≤ d.natAbs := natAbs_le_of_mul (frQ_mul hd) (frS_ne hd)
theorem Sm.up {x : Int} {a b : Nat} (h : Sm x a) (l : a ≤ b) : Sm x b := ⟨Nat.lt_of_lt_of_le h.lt (Nat.pow_le_pow_right (by decide) l), Nat.lt_of_lt_of_le h.pos l⟩
abbrev iL (xs : List Int) : List Dt := xs.map Dt.int
def co (xs : List Int) (k : Nat) : Int := xs.getD k 0
theorem co_nil (k : Nat) : co [] k = 0 := by simp [co]
theorem co_succ (a : Int) (xs : List Int) (k : Nat) : co (a :: xs) (k + 1) = co xs k := rfl
theorem co_lt {xs : List Int} {k : Nat} (h : k < xs.length) : xs[k]? = some (co xs k) := by
  unfold co
  rw [List.getD_eq_getElem?_getD, List.getElem?_eq_getElem h]
  rfl
theorem co_ge {xs : List Int} {k : Nat} (h : xs.length ≤ k) : co xs k = 0 := by
  unfold co
  rw [List.getD_eq_getElem?_getD, List.getElem?_eq_none h]
  rfl
theorem co_map (f : Int → Int) (hf : f 0 = 0) (xs : List Int) (k : Nat) : co (xs.map f) k = f (co xs k) := by
  by_cases h : k < xs.length
  · have h1 := co_lt (xs := xs.map f) (k := k) (by simpa using h)
    rw [List.getElem?_map, co_lt h] at h1
    exact (Option.some.inj h1).symm
  · rw [co_ge (by simpa using h), co_ge (by omega), hf]
theorem co_take (xs : List Int) (n k : Nat) : co (xs.take n) k = if k < n then co xs k else 0 := by
  unfold co
  rw [List.getD_eq_getElem?_getD, List.getD_eq_getElem?_getD, List.getElem?_take]
  split <;> rfl
theorem co_ext {xs ys : List Int} (hl : xs.length = ys.length) (h : ∀ k, co xs k = co ys k) : xs = ys := by
  apply List.ext_getElem? 
  intro k
  by_cases hk : k < xs.length
  · rw [co_lt hk, co_lt (by omega), h k]
  · rw [List.getElem?_eq_none (by omega), List.getElem?_eq_none (by omega)]
def tsz : List Int → Nat
  | [] => 0
  | a :: xs => if tsz xs = 0 then (if a = 0 then 0 else 1) else tsz xs + 1
theorem tsz_le : ∀ xs : List Int, tsz xs ≤ xs.length
  | [] => Nat.le_refl _
  | a :: xs => by
    have := tsz_le xs
    unfold tsz
    rw [List.length_cons]
    split
    · split <;> omega
    · omega
theorem tsz_zero : ∀ (xs : List Int) (k : Nat), tsz xs ≤ k → co xs k = 0
  | [], k, _ => co_nil k
  | a :: xs, k, h => by
    unfold tsz at h
    cases k with
    | zero =>
      split at h
      · split at h
        · assumption
        · omega
      · omega
    | succ k =>
      rw [co_succ]
      refine tsz_zero xs k ?_
      split at h <;> omega
theorem tsz_last : ∀ (xs : List Int), tsz xs ≠ 0 → co xs (tsz xs - 1) ≠ 0
  | [], h => absurd rfl h
  | a :: xs, h => by
    unfold tsz at h ⊢
    by_cases z : tsz xs = 0
    · rw [if_pos z] at h ⊢
      by_cases ha : a = 0
      · rw [if_pos ha] at h; exact absurd rfl h
      · rw [if_neg ha]
        exact ha
    · rw [if_neg z]
      have := tsz_last xs z
      rw [show tsz xs + 1 - 1 = (tsz xs - 1) + 1 by omega, co_succ]
      exact this
theorem tsz_eq {xs : List Int} {n : Nat} (h1 : ∀ k, n ≤ k → co xs k = 0) (h2 : n ≠ 0 → co xs (n - 1) ≠ 0) : tsz xs = n := by
  rcases Nat.lt_trichotomy (tsz xs) n with h | h | h
  · exact absurd (tsz_zero xs (n - 1) (by omega)) (h2 (by omega))
  · exact h
  · exact absurd (h1 (tsz xs - 1) (by omega)) (tsz_last xs (by omega))
def trim (xs : List Int) : List Int := xs.take (tsz xs)
theorem co_trim (xs : List Int) (k : Nat) : co (trim xs) k = co xs k := by
  unfold trim
  rw [co_take]
  split
  · rfl
  · exact (tsz_zero xs k (by omega)).symm
theorem trim_len (xs : List Int) : (trim xs).length = tsz xs := by
  unfold trim
  rw [List.length_take]
  have := tsz_le xs
  omega
def cont (xs : List Int) : Nat := xs.foldl (fun g x => Int.gcd g x) 0
theorem foldl_gcd : ∀ (xs : List Int) (g : Nat), xs.foldl (fun g x => Int.gcd g x) g = Nat.gcd g (cont xs)
  | [], g => by simp [cont]
  | x :: xs, g => by
    have h1 := foldl_gcd xs (Int.gcd g x)
    have h2 := foldl_gcd xs (Int.gcd (0 : Nat) x)
    unfold cont
    simp only [List.foldl_cons]
    rw [h1, h2]
    show Nat.gcd (Nat.gcd g x.natAbs) (cont xs) = Nat.gcd g (Nat.gcd (Nat.gcd 0 x.natAbs) (cont xs))
    rw [Nat.gcd_zero_left, Nat.gcd_assoc]
theorem cont_cons (x : Int) (xs : List Int) : cont (x :: xs) = Nat.gcd x.natAbs (cont xs) := by
  have := foldl_gcd xs (Int.gcd (0 : Nat) x)
  unfold cont at *
  rw [List.foldl_cons, this]
  show Nat.gcd (Nat.gcd 0 x.natAbs) _ = _
  rw [Nat.gcd_zero_left]
theorem cont_dvd : ∀ {xs : List Int} {x : Int}, x ∈ xs → (cont xs : Int) ∣ x
  | y :: xs, x, h => by
    rw [cont_cons]
    rcases List.mem_cons.mp h with e | e
    · subst e
      exact Int.ofNat_dvd_left.mpr (Nat.gcd_dvd_left _ _)
    · exact Int.dvd_trans (Int.natCast_dvd_natCast.mpr (Nat.gcd_dvd_right _ _)) (cont_dvd e)
theorem dvd_cont : ∀ {xs : List Int} {m : Nat}, (∀ x ∈ xs, (m : Int) ∣ x) → m ∣ cont xs
  | [], m, _ => Nat.dvd_zero m
  | x :: xs, m, h => by
    rw [cont_cons]
    exact Nat.dvd_gcd (Int.ofNat_dvd_left.mp (h x List.mem_cons_self)) (dvd_cont fun y hy => h y (List.mem_cons_of_mem _ hy))
theorem cont_mul : ∀ (xs : List Int) (s : Int), cont (xs.map (· * s)) = cont xs * s.natAbs
  | [], s => by simp [cont]
  | x :: xs, s => by
    rw [List.map_cons, cont_cons, cont_cons, cont_mul xs s, Int.natAbs_mul, Nat.gcd_mul_right]
theorem dvd_cont_mul {q m : Int} : ∀ {ys : List Int}, (∀ y ∈ ys, q ∣ y * m) → q.natAbs ∣ cont ys * m.natAbs
  | [], _ => by simp [cont]
  | y :: ys, h => by
    rw [cont_cons, ← Nat.gcd_mul_right]
    refine Nat.dvd_gcd ?_ (dvd_cont_mul fun z hz => h z (List.mem_cons_of_mem _ hz))
    rw [← Int.natAbs_mul]
    exact Int.natAbs_dvd_natAbs.mpr (h y List.mem_cons_self)
def plS (xs : List Int) (d : Int) : Int := if d < 0 then -(Nat.gcd (cont (trim xs)) d.natAbs : Int) else (Nat.gcd (cont (trim xs)) d.natAbs : Int)
def plC (xs : List Int) (d : Int) : List Int := (trim xs).map fun x => x.fdiv (plS xs d)
def plD (xs : List Int) (d : Int) : Int := d.fdiv (plS xs d)
section
variable {xs : List Int} {d : Int}
theorem plG_pos (hd : d ≠ 0) : 0 < Nat.gcd (cont (trim xs)) d.natAbs := Nat.gcd_pos_of_pos_right _ (Int.natAbs_pos.mpr hd)
theorem plS_ne (hd : d ≠ 0) : plS xs d ≠ 0 := by
  have := plG_pos (xs := xs) hd
  unfold plS
  split <;> omega
theorem plS_abs : (plS xs d).natAbs = Nat.gcd (cont (trim xs)) d.natAbs := by
  unfold plS
  split <;> omega
theorem plS_dvd_d : plS xs d ∣ d := by
  rw [← Int.natAbs_dvd, plS_abs]
  exact Int.ofNat_dvd_left.mpr (Nat.gcd_dvd_right _ _)
theorem plS_dvd {x : Int} (h : x ∈ trim xs) : plS xs d ∣ x := by
  rw [← Int.natAbs_dvd, plS_abs]
  exact Int.dvd_trans (Int.natCast_dvd_natCast.mpr (Nat.gcd_dvd_left _ _)) (cont_dvd h)
theorem fdiv_mul_of_dvd {a s : Int} (hs : s ≠ 0) (h : s ∣ a) : a.fdiv s * s = a := by
  obtain ⟨k, rfl⟩ := h
  rw [Int.mul_comm s k, Int.mul_fdiv_cancel _ hs]
theorem plD_mul (hd : d ≠ 0) : plD xs d * plS xs d = d := fdiv_mul_of_dvd (plS_ne hd) plS_dvd_d
theorem plD_pos (hd : d ≠ 0) : 0 < plD xs d := by
  have h := plD_mul (xs := xs) hd
  have g := plG_pos (xs := xs) hd
  rcases Int.lt_or_gt_of_ne hd with h0 | h0
  · have hs : plS xs d < 0 := by unfold plS; rw [if_pos h0]; omega
    rcases Int.lt_trichotomy (plD xs d) 0 with q | q | q
    · have := Int.mul_pos_of_neg_of_neg q hs
      omega
    · rw [q, Int.zero_mul] at h; omega
    · exact q
  · have hs : 0 < plS xs d := by unfold plS; rw [if_neg (by omega)]; omega
    rcases Int.lt_trichotomy (plD xs d) 0 with q | q | q
    · have := Int.mul_neg_of_neg_of_pos q hs
      omega
    · rw [q, Int.zero_mul] at h; omega
    · exact q
theorem plC_len : (plC xs d).length = tsz xs := by unfold plC; rw [List.length_map, trim_len]
theorem plC_mul (hd : d ≠ 0) (k : Nat) : co (plC xs d) k * plS xs d = co xs k := by
  unfold plC
  rw [co_map (fun x => x.fdiv (plS xs d)) (by simp), ← co_trim xs k]
  by_cases h : k < (trim xs).length
  · exact fdiv_mul_of_dvd (plS_ne hd) (plS_dvd (List.mem_of_getElem? (co_lt h)))
  · rw [co_ge (by omega)]
    simp
theorem pl_cross (hd : d ≠ 0) (k : Nat) : co (plC xs d) k * d = co xs k * plD xs d := by
  have h1 := plC_mul (xs := xs) hd k
  have h2 := plD_mul (xs := xs) hd
  generalize plS xs d = s at *
  generalize plD xs d = q at *
  generalize co (plC xs d) k = y at *
  grind
theorem pl_gcd (hd : d ≠ 0) : Nat.gcd (cont (plC xs d)) (plD xs d).natAbs = 1 := by
  have h1 : (plC xs d).map (· * plS xs d) = trim xs := by
    unfold plC
    rw [List.map_map]
    conv => rhs; rw [← List.map_id (trim xs)]
    refine List.map_congr_left fun x hx => ?_
    exact fdiv_mul_of_dvd (plS_ne hd) (plS_dvd hx)
  have h2 : cont (plC xs d) * (plS xs d).natAbs = cont (trim xs) := by rw [← cont_mul, h1]
  have h3 : (plD xs d).natAbs * (plS xs d).natAbs = d.natAbs := by rw [← Int.natAbs_mul, plD_mul hd]
  have h4 := Nat.gcd_mul_right (cont (plC xs d)) (plS xs d).natAbs (plD xs d).natAbs
  rw [h2, h3, plS_abs] at h4
  have g := plG_pos (xs := xs) hd
  exact Nat.eq_of_mul_eq_mul_right g (by omega)
theorem plC_last (hd : d ≠ 0) (h : plC xs d ≠ []) : co (plC xs d) ((plC xs d).length - 1) ≠ 0 := by
  have hl := plC_len (xs := xs) (d := d)
  have hn : tsz xs ≠ 0 := fun z => h (List.length_eq_zero_iff.mp (by rw [hl, z]))
  have := tsz_last xs hn
  rw [hl]
  intro z
  have m := plC_mul (xs := xs) hd (tsz xs - 1)
  rw [z, Int.zero_mul] at m
  exact this m.symm
end
theorem pl_canon {xs xs' : List Int} {d d' : Int} (hd : d ≠ 0) (hd' : d' ≠ 0) (h : ∀ k, co xs k * d' = co xs' k * d) : plC xs d = plC xs' d' ∧ plD xs d = plD xs' d' := by
  have hz : ∀ k, co xs k = 0 ↔ co xs' k = 0 := fun k => by
    constructor
    · intro z
      have := h k
      rw [z, Int.zero_mul] at this
      exact (Int.mul_eq_zero.mp this.symm).resolve_right hd
    · intro z
      have := h k
      rw [z, Int.zero_mul] at this
      exact (Int.mul_eq_zero.mp this).resolve_right hd'
  have ht : tsz xs = tsz xs' := (tsz_eq (xs := xs') (n := tsz xs) (fun k hk => (hz k).mp (tsz_zero xs k hk)) (fun hn z => tsz_last xs hn ((hz _).mpr z))).symm
  have a1 := fun k => pl_cross (xs := xs) hd k
  have a2 := fun k => pl_cross (xs := xs') hd' k
  have b1 := plD_pos (xs := xs) hd
  have b2 := plD_pos (xs := xs') hd'
  have c1 := pl_gcd (xs := xs) hd
  have c2 := pl_gcd (xs := xs') hd'
  have l1 := plC_len (xs := xs) (d := d)
  have l2 := plC_len (xs := xs') (d := d')
  generalize plC xs d = ys at *
  generalize plC xs' d' = ys' at *
  generalize plD xs d = q at *
  generalize plD xs' d' = q' at *
  have kk : ∀ k, co ys k * q' = co ys' k * q := fun k => by
    refine Int.eq_of_mul_eq_mul_left (Int.mul_ne_zero hd hd') ?_
    have h1 := a1 k
    have h2 := a2 k
    have h3 := h k
    generalize co ys k = y at *
    generalize co ys' k = y' at *
    generalize co xs k = x at *
    generalize co xs' k = x' at *
    grind
  have dv : ∀ {ys ys' : List Int} {q q' : Int}, (∀ k, co ys k * q' = co ys' k * q) → Nat.gcd (cont ys) q.natAbs = 1 → q ∣ q' := fun {ys ys' q q'} hk hg => by
    have h1 : q.natAbs ∣ cont ys * q'.natAbs := dvd_cont_mul fun y hy => by
      obtain ⟨k, hlt, e⟩ := List.mem_iff_getElem.mp hy
      have h2 := co_lt hlt
      rw [List.getElem?_eq_getElem hlt] at h2
      have h3 : y = co ys k := by rw [← e]; exact Option.some.inj h2
      rw [h3, hk k]
      exact Int.dvd_mul_left _ _
    have h2 : Nat.Coprime q.natAbs (cont ys) := by
      rw [Nat.gcd_comm] at hg
      exact hg
    exact Int.natAbs_dvd_natAbs.mp (Nat.Coprime.dvd_of_dvd_mul_left h2 h1)
  have d1 : q ∣ q' := dv kk c1
  have d2 : q' ∣ q := dv (fun k => (kk k).symm) c2
  have e : q = q' := Int.le_antisymm (Int.le_of_dvd b2 d1) (Int.le_of_dvd b1 d2)
  subst e
  exact ⟨co_ext (by omega) fun k => Int.eq_of_mul_eq_mul_right (by omega) (kk k), rfl⟩
abbrev pl (c : Nat) (xs : List Int) (d : Int) : Dt := .ins c [.tup (iL (plC xs d)), .int (plD xs d)]
theorem co_pad (xs : List Int) (n k : Nat) : co (xs ++ List.replicate n 0) k = co xs k := by
  unfold co
  rw [List.getD_eq_getElem?_getD, List.getD_eq_getElem?_getD]
  by_cases h : k < xs.length
  · rw [List.getElem?_append_left h]
  · rw [List.getElem?_append_right (by omega), List.getElem?_replicate, List.getElem?_eq_none (by omega : xs.length ≤ k)]
    split <;> rfl
theorem foldl_int : ∀ (ys : List Int) (g : Nat), ys.foldl (fun g x => (Int.gcd g x : Int)) (g : Int) = ((ys.foldl (fun (g : Nat) x => Int.gcd g x) g : Nat) : Int)
  | [], g => rfl
  | y :: ys, g => foldl_int ys (Int.gcd g y)
theorem plC_small {xs : List Int} {d : Int} (hd : d ≠ 0) (k : Nat) : (co (plC xs d) k).natAbs ≤ (co xs k).natAbs := natAbs_le_of_mul (plC_mul hd k) (plS_ne hd)
theorem plD_small {xs : List Int} {d : Int} (hd : d ≠ 0) : (plD xs d).natAbs ≤ d.natAbs := natAbs_le_of_mul (plD_mul hd) (plS_ne hd)
theorem co_set {xs : List Int} {m : Nat} {v : Int} (h : m < xs.length) (k : Nat) : co (xs.set m v) k = if k = m then v else co xs k := by
  unfold co
  rw [List.getD_eq_getElem?_getD, List.getD_eq_getElem?_getD]
  by_cases e : k = m
  · subst e
    rw [List.getElem?_set_self h, if_pos rfl]
    rfl
  · rw [List.getElem?_set_ne (fun z => e z.symm), if_neg e]
theorem co_repl (n k : Nat) : co (List.replicate n 0) k = 0 := by
  unfold co
  rw [List.getD_eq_getElem?_getD, List.getElem?_replicate]
  split <;> rfl
def mulc : List Int → List Int → Nat → Int
  | [], _, _ => 0
  | a :: as, b, k => a * co b k + (match k with
    | 0 => 0
    | k + 1 => mulc as b k)
theorem mulc_snoc : ∀ (xs : List Int) (a : Int) (b : List Int) (k : Nat), mulc (xs ++ [a]) b k = mulc xs b k + (if xs.length ≤ k then a * co b (k - xs.length) else 0)
  | [], a, b, k => by
    cases k <;> simp [mulc]
  | x :: xs, a, b, 0 => by simp [mulc]
  | x :: xs, a, b, k + 1 => by
    have := mulc_snoc xs a b k
    show x * co b (k + 1) + mulc (xs ++ [a]) b k = x * co b (k + 1) + mulc xs b k + _
    rw [this, List.length_cons, Int.add_assoc]
    congr 2
    by_cases h : xs.length ≤ k
    · rw [if_pos h, if_pos (by omega), show k + 1 - (xs.length + 1) = k - xs.length by omega]
    · rw [if_neg h, if_neg (by omega)]
def shc (s : Int) : List Int → Nat → Int
  | [], _ => 0
  | a :: xs, k => (match k with
    | 0 => a
    | k + 1 => shc s xs k) + s * shc s xs k
def syn (s : Int) : List Int → List Int
  | [] => []
  | a :: t => (a + s * co (syn s t) 0) :: syn s t
theorem syn_len (s : Int) : ∀ t, (syn s t).length = t.length
  | [] => rfl
  | a :: t => congrArg (· + 1) (syn_len s t)
theorem shc_syn (s : Int) : ∀ (t : List Int), shc s t 0 = co (syn s t) 0 ∧ ∀ k, shc s t (k + 1) = shc s (syn s t).tail k
  | [] => ⟨by simp [shc, syn, co], fun k => by simp [shc, syn]⟩
  | a :: t => by
    obtain ⟨i0, i1⟩ := shc_syn s t
    refine ⟨?_, fun k => ?_⟩
    · show a + s * shc s t 0 = a + s * co (syn s t) 0
      rw [i0]
    · show shc s t k + s * shc s t (k + 1) = shc s (syn s t) k
      rw [i1 k]
      cases t with
      | nil => simp [shc, syn]
      | cons b t =>
        show shc s (b :: t) k + s * shc s (syn s t) k = shc s ((b + s * co (syn s t) 0) :: syn s t) k
        cases k with
        | zero =>
          rw [i0]
          rfl
        | succ k =>
          rw [i1 k]
          rfl
theorem shc_ge (s : Int) : ∀ (xs : List Int) (k : Nat), xs.length ≤ k → shc s xs k = 0
  | [], k, _ => rfl
  | a :: xs, 0, h => by simp at h
  | a :: xs, k + 1, h => by
    have h' : xs.length ≤ k := by simpa using h
    show shc s xs k + s * shc s xs (k + 1) = 0
    rw [shc_ge s xs k h', shc_ge s xs (k + 1) (by omega)]
    simp
theorem shc_lin (s : Int) : ∀ (xs ys : List Int) (p q : Int), (∀ k, co xs k * p = co ys k * q) → ∀ k, shc s xs k * p = shc s ys k * q
  | [], [], p, q, _, k => by simp [shc]
  | [], y :: ys, p, q, h, k => by
    have ih := shc_lin s [] ys p q (fun k => h (k + 1))
    have h0 := h 0
    have z : ∀ k, shc s ys k * q = 0 := fun k => by rw [← ih k]; simp [shc]
    have y0 : y * q = 0 := by rw [← show co (y :: ys) 0 = y from rfl, ← h0]; simp [co]
    show 0 * p = ((match k with | 0 => y | k + 1 => shc s ys k) + s * shc s ys k) * q
    rw [Int.add_mul, Int.mul_assoc, z k]
    cases k with
    | zero => simp [y0]
    | succ k => simp [z k]
  | x :: xs, [], p, q, h, k => by
    have ih := shc_lin s xs [] p q (fun k => h (k + 1))
    have h0 := h 0
    have z : ∀ k, shc s xs k * p = 0 := fun k => by rw [ih k]; simp [shc]
    have x0 : x * p = 0 := by rw [← show co (x :: xs) 0 = x from rfl, h0]; simp [co]
    show ((match k with | 0 => x | k + 1 => shc s xs k) + s * shc s xs k) * p = 0 * q
    rw [Int.add_mul, Int.mul_assoc, z k]
    cases k with
    | zero => simp [x0]
    | succ k => simp [z k]
  | x :: xs, y :: ys, p, q, h, k => by
    have ih := shc_lin s xs ys p q (fun k => h (k + 1))
    have h0 : x * p = y * q := h 0
    show ((match k with | 0 => x | k + 1 => shc s xs k) + s * shc s xs k) * p = ((match k with | 0 => y | k + 1 => shc s ys k) + s * shc s ys k) * q
    rw [Int.add_mul, Int.add_mul, Int.mul_assoc, Int.mul_assoc, ih k]
    cases k with
    | zero => simp [h0]
    | succ k => simp [ih k]
theorem co_app (xs ys : List Int) (k : Nat) : co (xs ++ ys) k = if k < xs.length then co xs k else co ys (k - xs.length) := by
  unfold co
  rw [List.getD_eq_getElem?_getD, List.getD_eq_getElem?_getD, List.getD_eq_getElem?_getD]
  split
  · rw [List.getElem?_append_left (by assumption)]
  · rw [List.getElem?_append_right (by omega)]
theorem co_drop (xs : List Int) (n k : Nat) : co (xs.drop n) k = co xs (n + k) := by
  unfold co
  rw [List.getD_eq_getElem?_getD, List.getD_eq_getElem?_getD, List.getElem?_drop]
theorem drop_cons {xs : List Int} {j : Nat} (h : j < xs.length) : xs.drop j = co xs j :: xs.drop (j + 1) := by
  rw [List.drop_eq_getElem_cons h]
  have := co_lt h
  rw [List.getElem?_eq_getElem h] at this
  rw [Option.some.inj this]
def wj (s : Int) (L : List Int) (j : Nat) : List Int := L.take j ++ syn s (L.drop j)
theorem wj_len (s : Int) (L : List Int) (j : Nat) : (wj s L j).length = L.length := by
  unfold wj
  rw [List.length_append, syn_len, List.length_take, List.length_drop]
  omega
theorem wj_co (s : Int) (L : List Int) (j k : Nat) (hj : j ≤ L.length) : co (wj s L j) k = if k < j then co L k else co (syn s (L.drop j)) (k - j) := by
  unfold wj
  rw [co_app, List.length_take, Nat.min_eq_left hj, co_take]
  split
  · rfl
  · rfl
theorem wj_last (s : Int) {L : List Int} {n : Nat} (h : L.length = n + 1) : wj s L n = L := by
  unfold wj
  rw [drop_cons (by omega), List.drop_of_length_le (by omega)]
  show L.take n ++ [co L n + s * co [] 0] = L
  rw [co_nil, Int.mul_zero, Int.add_zero]
  refine co_ext (by simp; omega) fun k => ?_
  rw [co_app, List.length_take, co_take]
  by_cases h1 : k < n
  · rw [if_pos (by omega), if_pos h1]
  · rw [if_neg (by omega), Nat.min_eq_left (by omega)]
    by_cases h2 : k = n
    · subst h2
      rw [Nat.sub_self]
      rfl
    · rw [co_ge (by simp; omega), co_ge (by omega)]
theorem wj_step (s : Int) {L : List Int} {j : Nat} (h : j < L.length) : (wj s L (j + 1)).set j (co (wj s L (j + 1)) j + s * co (wj s L (j + 1)) (j + 1)) = wj s L j := by
  refine co_ext (by rw [List.length_set, wj_len, wj_len]) fun k => ?_
  have c1 : co (wj s L (j + 1)) j = co L j := by rw [wj_co s L (j + 1) j (by omega), if_pos (by omega)]
  have c2 : co (wj s L (j + 1)) (j + 1) = co (syn s (L.drop (j + 1))) 0 := by rw [wj_co s L (j + 1) (j + 1) (by omega), if_neg (by omega), Nat.sub_self]
  rw [co_set (by rw [wj_len]; exact h), c1, c2, wj_co s L j k (by omega)]
  by_cases e : k = j
  · subst e
    rw [if_pos rfl, if_neg (by omega), Nat.sub_self, drop_cons h]
    rfl
  · rw [if_neg e, wj_co s L (j + 1) k (by omega)]
    by_cases h1 : k < j
    · rw [if_pos (by omega), if_pos h1]
    · rw [if_neg (by omega), if_neg h1, drop_cons h, show k - j = (k - (j + 1)) + 1 by omega]
      rfl
theorem Sm.addUp {x y : Int} {m : Nat} (h : Sm x m) (k : Sm y m) : Sm (x + y) (m + 1) := ⟨by
  have h1 := h.lt
  have h2 := k.lt
  have := Int.natAbs_add_le x y
  rw [Nat.pow_succ]
  generalize 2 ^ m = A at *
  omega, Nat.succ_pos _⟩
theorem Sm.zero {m : Nat} (h : 0 < m) : Sm 0 m := ⟨Nat.pow_pos (by decide), h⟩
def sft (f : Nat → Int) : Nat → Int
  | 0 => 0
  | k + 1 => f k
def shF (t : Int) (f : Nat → Int) : Nat → Nat → Int
  | 0, _ => 0
  | n + 1, k => (match k with
    | 0 => f 0
    | k + 1 => shF t (fun i => f (i + 1)) n k) + t * shF t (fun i => f (i + 1)) n k
theorem shc_shF (t : Int) : ∀ (xs : List Int) (k : Nat), shc t xs k = shF t (co xs) xs.length k
  | [], k => rfl
  | a :: xs, k => by
    have ih := shc_shF t xs
    show (match k with | 0 => a | k + 1 => shc t xs k) + t * shc t xs k = (match k with | 0 => co (a :: xs) 0 | k + 1 => shF t (co xs) xs.length k) + t * shF t (co xs) xs.length k
    rw [ih k]
    cases k with
    | zero => rfl
    | succ k =>
      show shc t xs k + _ = shF t (co xs) xs.length k + _
      rw [ih k]
theorem shF_zero (t : Int) : ∀ (n : Nat) (f : Nat → Int) (k : Nat), (∀ i, f i = 0) → shF t f n k = 0
  | 0, f, k, _ => rfl
  | n + 1, f, 0, h => by
    show f 0 + t * shF t (fun i => f (i + 1)) n 0 = 0
    rw [h 0, shF_zero t n _ 0 fun i => h (i + 1), Int.mul_zero, Int.zero_add]
  | n + 1, f, k + 1, h => by
    show shF t (fun i => f (i + 1)) n k + t * shF t (fun i => f (i + 1)) n (k + 1) = 0
    rw [shF_zero t n _ k fun i => h (i + 1), shF_zero t n _ (k + 1) fun i => h (i + 1), Int.mul_zero, Int.zero_add]
theorem shF_lin (t c : Int) : ∀ (n : Nat) (f g h : Nat → Int) (k : Nat), (∀ i, h i = f i + c * g i) → shF t h n k = shF t f n k + c * shF t g n k
  | 0, f, g, h, k, _ => by show (0 : Int) = 0 + c * 0; omega
  | n + 1, f, g, h, 0, e => by
    have i0 := shF_lin t c n (fun i => f (i + 1)) (fun i => g (i + 1)) (fun i => h (i + 1)) 0 fun i => e (i + 1)
    show h 0 + t * shF t (fun i => h (i + 1)) n 0 = (f 0 + t * shF t (fun i => f (i + 1)) n 0) + c * (g 0 + t * shF t (fun i => g (i + 1)) n 0)
    rw [i0, e 0]
    generalize shF t (fun i => f (i + 1)) n 0 = x
    generalize shF t (fun i => g (i + 1)) n 0 = y
    generalize f 0 = u
    generalize g 0 = v
    grind
  | n + 1, f, g, h, k + 1, e => by
    have i0 := shF_lin t c n (fun i => f (i + 1)) (fun i => g (i + 1)) (fun i => h (i + 1)) k fun i => e (i + 1)
    have i1 := shF_lin t c n (fun i => f (i + 1)) (fun i => g (i + 1)) (fun i => h (i + 1)) (k + 1) fun i => e (i + 1)
    show shF t (fun i => h (i + 1)) n k + t * shF t (fun i => h (i + 1)) n (k + 1) = (shF t (fun i => f (i + 1)) n k + t * shF t (fun i => f (i + 1)) n (k + 1)) + c * (shF t (fun i => g (i + 1)) n k + t * shF t (fun i => g (i + 1)) n (k + 1))
    rw [i0, i1]
    generalize shF t (fun i => f (i + 1)) n k = x
    generalize shF t (fun i => g (i + 1)) n k = y
    generalize shF t (fun i => f (i + 1)) n (k + 1) = u
    generalize shF t (fun i => g (i + 1)) n (k + 1) = v
    grind
theorem shF_more (t : Int) : ∀ (n : Nat) (f : Nat → Int) (k : Nat), (∀ i, n ≤ i → f i = 0) → shF t f (n + 1) k = shF t f n k
  | 0, f, k, h => shF_zero t 1 f k fun i => h i (Nat.zero_le _)
  | n + 1, f, 0, h => by
    show f 0 + t * shF t (fun i => f (i + 1)) (n + 1) 0 = f 0 + t * shF t (fun i => f (i + 1)) n 0
    rw [shF_more t n _ 0 fun i hi => h (i + 1) (by omega)]
  | n + 1, f, k + 1, h => by
    show shF t (fun i => f (i + 1)) (n + 1) k + t * shF t (fun i => f (i + 1)) (n + 1) (k + 1) = shF t (fun i => f (i + 1)) n k + t * shF t (fun i => f (i + 1)) n (k + 1)
    rw [shF_more t n _ k fun i hi => h (i + 1) (by omega), shF_more t n _ (k + 1) fun i hi => h (i + 1) (by omega)]
theorem shF_sft (t : Int) (w : Nat → Int) (n k : Nat) : shF t (sft w) (n + 1) k = sft (shF t w n) k + t * shF t w n k := by
  cases k <;> rfl
end Pd
set_option maxHeartbeats 2000000
namespace Pd
open PySem PySem.Spec L2
section
variable {σ α β τ : Type}
theorem forV_inv {V : σ → α → Prop} {f : σ → α → σ} (I : Nat → σ → Prop) : ∀ {xs : List α} {s : σ} (m : Nat), I m s → (∀ i x s, xs[i]? = some x → I (m + i) s → V s x ∧ I (m + i + 1) (f s x)) → forV V f xs s ∧ I (m + xs.length) (xs.foldl f s)
  | [], s, m, h, _ => ⟨trivial, h⟩
  | x :: xs, s, m, h, st => by
    obtain ⟨v, h1⟩ := st 0 x s rfl h
    obtain ⟨w, h2⟩ := forV_inv I (xs := xs) (s := f s x) (m + 1) h1 fun i y s' hy hs => by
      have := st (i + 1) y s' (by simpa using hy) (by rwa [show m + (i + 1) = m + 1 + i by omega])
      rwa [show m + (i + 1) + 1 = m + 1 + i + 1 by omega] at this
    exact ⟨⟨v, w⟩, by rw [List.length_cons, show m + (xs.length + 1) = m + 1 + xs.length by omega]; exact h2⟩
theorem forV_inv0 {V : σ → α → Prop} {f : σ → α → σ} (I : Nat → σ → Prop) {xs : List α} {s : σ} (h : I 0 s) (st : ∀ i x s, xs[i]? = some x → I i s → V s x ∧ I (i + 1) (f s x)) : forV V f xs s ∧ I xs.length (xs.foldl f s) := by
  have := forV_inv I (xs := xs) (s := s) (V := V) (f := f) 0 h fun i x s hx hs => by
    rw [Nat.zero_add] at hs ⊢; exact st i x s hx hs
  rwa [Nat.zero_add] at this
theorem forX_inv {V : σ → α → Prop} {f : σ → α → Fl σ σ β} (I : Nat → σ → Prop) : ∀ {xs : List α} {s : σ} (m : Nat), I m s → (∀ i x s, xs[i]? = some x → I (m + i) s → V s x ∧ ∃ s', f s x = .nx s' ∧ I (m + i + 1) s') → forVX V f xs s ∧ ∃ s', (forX f xs s : Fl σ τ β) = .nx s' ∧ I (m + xs.length) s'
  | [], s, m, h, _ => ⟨trivial, s, rfl, h⟩
  | x :: xs, s, m, h, st => by
    obtain ⟨v, s1, e1, h1⟩ := st 0 x s rfl h
    obtain ⟨w, s2, e2, h2⟩ := forX_inv I (xs := xs) (s := s1) (V := V) (f := f) (m + 1) h1 fun i y s' hy hs => by
      have := st (i + 1) y s' (by simpa using hy) (by rwa [show m + (i + 1) = m + 1 + i by omega])
      rwa [show m + (i + 1) + 1 = m + 1 + i + 1 by omega] at this
    refine ⟨⟨v, ?_⟩, s2, ?_, by rw [List.length_cons, show m + (xs.length + 1) = m + 1 + xs.length by omega]; exact h2⟩
    · rw [e1]; exact w
    · show (match f s x with | .nx s' => forX f xs s' | .ct s' => forX f xs s' | .bk s' => .nx s' | .rt r => .rt r) = _
      rw [e1]; exact e2
theorem forX_inv0 {V : σ → α → Prop} {f : σ → α → Fl σ σ β} (I : Nat → σ → Prop) {xs : List α} {s : σ} (h : I 0 s) (st : ∀ i x s, xs[i]? = some x → I i s → V s x ∧ ∃ s', f s x = .nx s' ∧ I (i + 1) s') : forVX V f xs s ∧ ∃ s', (forX f xs s : Fl σ τ β) = .nx s' ∧ I xs.length s' := by
  have := forX_inv I (τ := τ) (xs := xs) (s := s) (V := V) (f := f) 0 h fun i x s hx hs => by
    rw [Nat.zero_add] at hs ⊢; exact st i x s hx hs
  rwa [Nat.zero_add] at this
theorem forX_all {V : Unit → α → Prop} {f : Unit → α → Fl Unit Unit β} {xs : List α} (st : ∀ (i : Nat) (x : α), xs[i]? = some x → V () x ∧ f () x = .nx ()) : forVX V f xs () ∧ (forX f xs () : Fl Unit τ β) = .nx () := by
  obtain ⟨a, s', b, _⟩ := forX_inv0 (τ := τ) (V := V) (f := f) (fun _ _ => True) (xs := xs) (s := ()) trivial fun i x s hx _ => ⟨(st i x hx).1, (), (st i x hx).2, trivial⟩
  exact ⟨a, b⟩
theorem whN_of {t : σ → Bool} {Vt V : σ → Prop} {f : σ → σ} (I : Nat → σ → Prop) : ∀ (n : Nat) (s : σ), I n s → (∀ n s, I n s → Vt s ∧ (t s = false ∨ (t s = true ∧ V s ∧ ∃ k, k < n ∧ I k (f s)))) → ∃ m k, whN t Vt f V m s ∧ I k (itN f m s) ∧ t (itN f m s) = false := by
  intro n
  induction n using Nat.strongRecOn with
  | ind n ih =>
    intro s h st
    obtain ⟨v, e | ⟨e, w, k, hk, h2⟩⟩ := st n s h
    · exact ⟨0, n, ⟨v, e⟩, h, e⟩
    · obtain ⟨m, k', a, b, c⟩ := ih k hk (f s) h2 st
      exact ⟨m + 1, k', ⟨v, e, w, a⟩, b, c⟩
theorem whV_inv {t : σ → Bool} {Vt V : σ → Prop} {f : σ → σ} (I : Nat → σ → Prop) (n : Nat) {s : σ} (h : I n s) (st : ∀ n s, I n s → Vt s ∧ (t s = false ∨ (t s = true ∧ V s ∧ ∃ k, k < n ∧ I k (f s)))) : whV t Vt f V s ∧ ∃ k, I k (wh t f s) ∧ t (wh t f s) = false := by
  obtain ⟨m, k, a, b, c⟩ := whN_of I n s h st
  refine ⟨⟨m, a⟩, k, ?_⟩
  rw [wh_at (whN_T a)]
  exact ⟨b, c⟩
end
theorem rngN_length (a : Int) (n : Nat) : (rngN a n).length = n := by
  induction n generalizing a with
  | zero => rfl
  | succ n ih => simp [rngN, ih]
theorem rngN_get {a : Int} {n i : Nat} {x : Int} (h : (rngN a n)[i]? = some x) : i < n ∧ x = a + i := by
  induction n generalizing a i with
  | zero => simp [rngN] at h
  | succ n ih =>
    cases i with
    | zero => simp [rngN] at h; exact ⟨by omega, by rw [← h]; simp⟩
    | succ i =>
      obtain ⟨h1, h2⟩ := ih (a := a + 1) (i := i) (by simpa [rngN] using h)
      exact ⟨by omega, by rw [h2]; push_cast; omega⟩
theorem rngT_length (a b : Int) : (rngT a b).length = (b - a).toNat := rngN_length _ _
theorem rngT_get {a b : Int} {i : Nat} {x : Int} (h : (rngT a b)[i]? = some x) : (i : Int) < b - a ∧ x = a + i := by
  obtain ⟨h1, h2⟩ := rngN_get h
  exact ⟨by omega, h2⟩
theorem rngT0_length (n : Nat) : (rngT 0 (n : Int)).length = n := by rw [rngT_length]; omega
theorem rngT0_get {n i : Nat} {x : Int} (h : (rngT 0 (n : Int))[i]? = some x) : i < n ∧ x = i := by
  obtain ⟨h1, h2⟩ := rngT_get h
  omega
theorem ixN_n {n j : Nat} (hj : j < n) : ixN n (j : Int) = some j := by
  unfold ixN
  rw [if_pos (by omega), if_pos (by omega), Int.toNat_natCast]
theorem gt_co (xs : List Int) (k : Nat) : gt xs (k : Int) = co xs k := by
  unfold gt atI
  by_cases h : k < xs.length
  · rw [ixN_n h]
    show (xs[k]?).getD default = co xs k
    rw [co_lt h]; rfl
  · have : ixN xs.length (k : Int) = none := by
      unfold ixN
      rw [if_pos (by omega), if_neg (by omega)]
    rw [this, co_ge (by omega)]; rfl
theorem inR_nat {α : Type} {xs : List α} {k : Nat} (h : k < xs.length) : inR xs (k : Int) := by unfold inR; omega
theorem inR_i {α : Type} {xs : List α} {i : Int} (h0 : 0 ≤ i) (h : i < xs.length) : inR xs i := by unfold inR; omega
theorem gt_neg {α : Type} [Inhabited α] {xs : List α} (h : 0 < xs.length) : gt xs (-1 : Int) = xs[xs.length - 1] := by
  unfold gt atI ixN
  rw [if_neg (by omega), if_pos (by omega)]
  show (xs[(((xs.length : Nat) : Int) + -1).toNat]?).getD default = _
  have e : (((xs.length : Nat) : Int) + -1).toNat = xs.length - 1 := by omega
  rw [e, List.getElem?_eq_getElem (by omega)]; rfl
theorem setT_nat {α : Type} {xs : List α} {k : Nat} {x : α} (h : k < xs.length) : setT xs (k : Int) x = xs.set k x := by
  unfold setT
  rw [ixN_n h]
theorem setT_len {α : Type} (xs : List α) (i : Int) (x : α) : (setT xs i x).length = xs.length := by
  unfold setT
  split <;> simp
theorem cut_take {α : Type} {xs : List α} {n : Nat} (h : n ≤ xs.length) : cutT xs none (some (n : Int)) = xs.take n := by
  unfold cutT
  rw [HT.sIx_none, HT.sIx_nat, List.drop_zero, Nat.sub_zero, Nat.min_eq_left h]
theorem rep_one (n : Int) : repT [(0 : Int)] n = List.replicate n.toNat 0 := by
  unfold repT
  induction n.toNat with
  | zero => rfl
  | succ n ih => rw [List.replicate_succ, List.flatten_cons, ih, List.replicate_succ]; rfl
theorem line_le {n : Nat} (h : n ≤ 10000000) : n ≤ LINE := by
  have : LINE = 16777216 := rfl
  omega
theorem line_lt {n : Nat} (h : n ≤ 10000000) : n < LINE := by
  have : LINE = 16777216 := rfl
  omega
theorem rng_zeros (n : Int) : (rngT 0 n).map (fun _ => (0 : Int)) = List.replicate n.toNat 0 := by
  rw [List.map_const']
  congr 1
  rw [rngT_length]
  omega
theorem enN_length {α : Type} (i : Nat) (xs : List α) : (enN i xs).length = xs.length := by
  induction xs generalizing i with
  | nil => rfl
  | cons x xs ih => simp [enN, ih]
theorem enN_get {α : Type} {k : Nat} : ∀ {xs : List α} {i : Nat} {p : Int × α}, (enN k xs)[i]? = some p → p.1 = ((k + i : Nat) : Int) ∧ xs[i]? = some p.2
  | [], _, _, h => by simp [enN] at h
  | x :: xs, 0, p, h => by simp [enN] at h; subst h; exact ⟨by simp, rfl⟩
  | x :: xs, i + 1, p, h => by
    obtain ⟨h1, h2⟩ := enN_get (k := k + 1) (xs := xs) (i := i) (p := p) (by simpa [enN] using h)
    exact ⟨by rw [h1]; push_cast; omega, by simpa using h2⟩
theorem enT_get {α : Type} {xs : List α} {i : Nat} {p : Int × α} (h : (enT xs)[i]? = some p) : p.1 = (i : Int) ∧ xs[i]? = some p.2 := by
  have := enN_get h
  simpa using this
theorem mulOk_sm {i j : Int} {a b : Nat} (h : Sm i a) (k : Sm j b) (l : a + b ≤ 100000000) : mulOk i j = true := mulOk_of a b h.lt k.lt l h.pos k.pos
theorem Sm.le {x y : Int} {n : Nat} (h : Sm y n) (l : x.natAbs ≤ y.natAbs) : Sm x n := ⟨Nat.lt_of_le_of_lt l h.lt, h.pos⟩
theorem Sm.nat {x : Int} {n : Nat} (lo : -(2 ^ n : Nat) < x) (hi : x < (2 ^ n : Nat)) (p : 0 < n) : Sm x n := ⟨by omega, p⟩
theorem Sm.mulUp {x y : Int} {a b c : Nat} (h : Sm x a) (k : Sm y b) (l : a + b ≤ c) : Sm (x * y) c := (Sm.mul (h := h) (k := k)).up l
theorem Sm.addUp2 {x y : Int} {a b c : Nat} (h : Sm x a) (k : Sm y b) (l : a + 1 ≤ c) (l' : b + 1 ≤ c) : Sm (x + y) c := by
  obtain ⟨m, rfl⟩ : ∃ m, c = m + 1 := ⟨c - 1, by omega⟩
  exact (h.up (b := m) (by omega)).addUp (k.up (by omega))
theorem Sm.negUp {x : Int} {a : Nat} (h : Sm x a) : Sm (-x) a := Sm.neg (h := h)
theorem Sm.subUp2 {x y : Int} {a b c : Nat} (h : Sm x a) (k : Sm y b) (l : a + 1 ≤ c) (l' : b + 1 ≤ c) : Sm (x - y) c := by
  rw [Int.sub_eq_add_neg]; exact h.addUp2 k.negUp l l'
theorem Sm.abs {x : Int} {a : Nat} (h : Sm x a) : Sm (x.natAbs : Int) a := h.le (by omega)
theorem rOk_nat {n : Nat} (h : n ≤ 1000000000000) : rOk (n : Int) = true := rOk_of (by omega) (by omega)
def fr (n d : Int) : Fr := ⟨frP n d, frQ n d⟩
theorem frS_cases (n d : Int) : (if decide (d < 0) = true then -((Int.gcd n d : Nat) : Int) else ((Int.gcd n d : Nat) : Int)) = frS n d := by
  unfold frS
  by_cases h : d < 0
  · rw [if_pos (decide_eq_true h), if_pos h]
  · rw [if_neg (by simpa using h), if_neg h]
theorem frac_spec {n d : Int} (hd : d ≠ 0) : v_Fraction_init n d ∧ q_Fraction_init n d = fr n d := by
  constructor
  · refine ⟨decide_eq_false hd, ?_⟩
    show (if decide (d < 0) = true then -((Int.gcd n d : Nat) : Int) else ((Int.gcd n d : Nat) : Int)) ≠ 0 ∧ (if decide (d < 0) = true then -((Int.gcd n d : Nat) : Int) else ((Int.gcd n d : Nat) : Int)) ≠ 0
    rw [frS_cases]
    exact ⟨frS_ne hd, frS_ne hd⟩
  · show (⟨n.fdiv (if decide (d < 0) = true then -((Int.gcd n d : Nat) : Int) else ((Int.gcd n d : Nat) : Int)), d.fdiv (if decide (d < 0) = true then -((Int.gcd n d : Nat) : Int) else ((Int.gcd n d : Nat) : Int))⟩ : Fr) = _
    rw [frS_cases]; rfl
theorem frP_sm {n d : Int} {b : Nat} (hd : d ≠ 0) (h : Sm n b) : Sm (frP n d) b := h.le (frP_le hd)
theorem frQ_sm {n d : Int} {b : Nat} (hd : d ≠ 0) (h : Sm d b) : Sm (frQ n d) b := h.le (frQ_le hd)
end Pd
set_option maxHeartbeats 2000000
namespace Pd
open PySem PySem.Spec L2
universe u
structure Ps (R : Type u) where
  cf : Nat → R
namespace Ps
open Lean.Grind
variable {R : Type u} [CommRing R]
local instance : NatCast R := Semiring.natCast
local instance : IntCast R := Ring.intCast
theorem ext {f g : Ps R} (h : ∀ k, f.cf k = g.cf k) : f = g := by
  cases f; cases g
  exact congrArg Ps.mk (funext h)
def sh (f : Nat → R) (k : Nat) : R := f (k + 1)
def cv (f g : Nat → R) : Nat → R
  | 0 => f 0 * g 0
  | k + 1 => f 0 * g (k + 1) + cv (sh f) g k
theorem cv_r (k : Nat) : ∀ (f g : Nat → R), cv f g (k + 1) = cv f (sh g) k + f (k + 1) * g 0 := by
  induction k with
  | zero => intro f g; rfl
  | succ k ih =>
    intro f g
    show f 0 * g (k + 2) + cv (sh f) g (k + 1) = (f 0 * g (k + 2) + cv (sh f) (sh g) k) + f (k + 2) * g 0
    rw [ih (sh f) g]
    show f 0 * g (k + 2) + (cv (sh f) (sh g) k + f (k + 2) * g 0) = _
    grind
theorem cv_comm (k : Nat) : ∀ (f g : Nat → R), cv f g k = cv g f k := by
  induction k with
  | zero => intro f g; show f 0 * g 0 = g 0 * f 0; grind
  | succ k ih =>
    intro f g
    rw [cv_r k g f]
    show f 0 * g (k + 1) + cv (sh f) g k = _
    rw [ih]
    grind
theorem cv_add (k : Nat) : ∀ (f g h : Nat → R), cv f (fun i => g i + h i) k = cv f g k + cv f h k := by
  induction k with
  | zero => intro f g h; show f 0 * (g 0 + h 0) = f 0 * g 0 + f 0 * h 0; grind
  | succ k ih =>
    intro f g h
    have := ih (sh f) g h
    show f 0 * (g (k + 1) + h (k + 1)) + cv (sh f) (fun i => g i + h i) k = f 0 * g (k + 1) + cv (sh f) g k + (f 0 * h (k + 1) + cv (sh f) h k)
    rw [this]
    grind
theorem cv_smul (c : R) (k : Nat) : ∀ (f g : Nat → R), cv (fun i => c * f i) g k = c * cv f g k := by
  induction k with
  | zero => intro f g; show c * f 0 * g 0 = c * (f 0 * g 0); grind
  | succ k ih =>
    intro f g
    have := ih (sh f) g
    show c * f 0 * g (k + 1) + cv (fun i => c * sh f i) g k = c * (f 0 * g (k + 1) + cv (sh f) g k)
    rw [this]
    grind
theorem cv_addl (k : Nat) (f g h : Nat → R) : cv (fun i => g i + h i) f k = cv g f k + cv h f k := by
  rw [cv_comm, cv_add, cv_comm k f g, cv_comm k f h]
theorem cv_assoc (k : Nat) : ∀ (f g h : Nat → R), cv (cv f g) h k = cv f (cv g h) k := by
  induction k with
  | zero => intro f g h; show f 0 * g 0 * h 0 = f 0 * (g 0 * h 0); grind
  | succ k ih =>
    intro f g h
    have e : sh (cv f g) = fun i => f 0 * sh g i + cv (sh f) g i := rfl
    have a := cv_addl k h (fun i => f 0 * sh g i) (cv (sh f) g)
    have b := cv_smul (f 0) k (sh g) h
    have c := ih (sh f) g h
    show f 0 * g 0 * h (k + 1) + cv (sh (cv f g)) h k = f 0 * (g 0 * h (k + 1) + cv (sh g) h k) + cv (sh f) (cv g h) k
    rw [e, a, b, c]
    grind
def kc (r : R) : Nat → R
  | 0 => r
  | _ + 1 => 0
theorem cv_zero (k : Nat) : ∀ (g : Nat → R), cv (fun _ => 0) g k = 0 := by
  induction k with
  | zero => intro g; show 0 * g 0 = 0; grind
  | succ k ih =>
    intro g
    have := ih g
    show 0 * g (k + 1) + cv (fun _ => 0) g k = 0
    rw [this]
    grind
theorem sh_kc (r : R) : sh (kc r) = fun _ => 0 := rfl
theorem cv_kc (r : R) (g : Nat → R) (k : Nat) : cv (kc r) g k = r * g k := by
  cases k with
  | zero => rfl
  | succ k =>
    show r * g (k + 1) + cv (sh (kc r)) g k = _
    rw [sh_kc, cv_zero]
    grind
instance : Add (Ps R) := ⟨fun f g => ⟨fun k => f.cf k + g.cf k⟩⟩
instance : Mul (Ps R) := ⟨fun f g => ⟨cv f.cf g.cf⟩⟩
instance : Neg (Ps R) := ⟨fun f => ⟨fun k => -f.cf k⟩⟩
instance : Sub (Ps R) := ⟨fun f g => ⟨fun k => f.cf k - g.cf k⟩⟩
def c (r : R) : Ps R := ⟨kc r⟩
instance : NatCast (Ps R) := ⟨fun n => c (n : R)⟩
instance : IntCast (Ps R) := ⟨fun n => c (n : R)⟩
instance (n : Nat) : OfNat (Ps R) n := ⟨c (OfNat.ofNat n)⟩
def pw (f : Ps R) : Nat → Ps R
  | 0 => c 1
  | n + 1 => pw f n * f
instance : HPow (Ps R) Nat (Ps R) := ⟨pw⟩
instance : SMul Nat (Ps R) := ⟨fun n f => (n : Ps R) * f⟩
instance : SMul Int (Ps R) := ⟨fun n f => (n : Ps R) * f⟩
@[simp] theorem add_cf (f g : Ps R) (k : Nat) : (f + g).cf k = f.cf k + g.cf k := rfl
@[simp] theorem neg_cf (f : Ps R) (k : Nat) : (-f).cf k = -f.cf k := rfl
@[simp] theorem sub_cf (f g : Ps R) (k : Nat) : (f - g).cf k = f.cf k - g.cf k := rfl
theorem mul_cf (f g : Ps R) (k : Nat) : (f * g).cf k = cv f.cf g.cf k := rfl
@[simp] theorem zero_cf (k : Nat) : (0 : Ps R).cf k = 0 := by cases k <;> rfl
theorem c_cf (r : R) (k : Nat) : (c r).cf k = if k = 0 then r else 0 := by cases k <;> rfl
theorem c_mul (r : R) (g : Ps R) (k : Nat) : (c r * g).cf k = r * g.cf k := cv_kc r g.cf k
theorem mul_comm' (f g : Ps R) : f * g = g * f := ext fun k => cv_comm k _ _
theorem c_neg (r : R) : c (-r) = -c r := ext fun k => by
  cases k with
  | zero => rfl
  | succ k => show (0 : R) = -0; grind
theorem c_add (r s : R) : c (r + s) = c r + c s := ext fun k => by
  cases k with
  | zero => rfl
  | succ k => show (0 : R) = 0 + 0; grind
theorem c_mulc (r s : R) : c (r * s) = c r * c s := ext fun k => by
  rw [c_mul]
  cases k with
  | zero => rfl
  | succ k => show (0 : R) = r * 0; grind
instance : CommRing (Ps R) where
  add_zero f := ext fun k => by rw [add_cf, zero_cf]; grind
  add_comm f g := ext fun k => by rw [add_cf, add_cf]; grind
  add_assoc f g h := ext fun k => by rw [add_cf, add_cf, add_cf, add_cf]; grind
  mul_assoc f g h := ext fun k => cv_assoc k _ _ _
  mul_comm := mul_comm'
  mul_one f := by rw [mul_comm']; exact ext fun k => by rw [show (1 : Ps R) = c 1 from rfl, c_mul]; grind
  one_mul f := ext fun k => by rw [show (1 : Ps R) = c 1 from rfl, c_mul]; grind
  left_distrib f g h := ext fun k => cv_add k _ _ _
  right_distrib f g h := ext fun k => cv_addl k _ _ _
  zero_mul f := ext fun k => by rw [show (0 : Ps R) = c 0 from rfl, c_mul, show (c (0 : R)).cf k = (0 : Ps R).cf k from rfl, zero_cf]; grind
  mul_zero f := by rw [mul_comm']; exact ext fun k => by rw [show (0 : Ps R) = c 0 from rfl, c_mul, show (c (0 : R)).cf k = (0 : Ps R).cf k from rfl, zero_cf]; grind
  pow_zero f := rfl
  pow_succ f n := rfl
  ofNat_succ n := by
    show c (OfNat.ofNat (n + 1)) = c (OfNat.ofNat n) + c 1
    rw [← c_add, Semiring.ofNat_succ]
  ofNat_eq_natCast n := by
    show c (OfNat.ofNat n) = c (n : R)
    rw [Semiring.ofNat_eq_natCast]
  neg_add_cancel f := ext fun k => by rw [add_cf, neg_cf, zero_cf]; grind
  sub_eq_add_neg f g := ext fun k => by rw [sub_cf, add_cf, neg_cf]; grind
  neg_zsmul i f := ext fun k => by
    show ((-i : Int) • f).cf k = (-(i • f)).cf k
    rw [neg_cf]
    show (c ((-i : Int) : R) * f).cf k = -(c (i : R) * f).cf k
    rw [c_mul, c_mul, Ring.intCast_neg]; grind
  zsmul_natCast_eq_nsmul n f := by
    show c (((n : Int) : R)) * f = c (n : R) * f
    rw [Ring.intCast_natCast]
  intCast_ofNat n := by
    show c ((OfNat.ofNat n : Int) : R) = c (OfNat.ofNat n)
    rw [Ring.intCast_ofNat]
  intCast_neg i := by
    show c ((-i : Int) : R) = -c (i : R)
    rw [Ring.intCast_neg, c_neg]
def X : Ps R := ⟨fun k => if k = 1 then 1 else 0⟩
def shp (f : Ps R) : Ps R := ⟨sh f.cf⟩
theorem X_zero (f : Ps R) : (X * f).cf 0 = 0 := by
  show (if (0 : Nat) = 1 then 1 else 0) * f.cf 0 = 0
  rw [if_neg (by omega)]; grind
theorem X_succ (f : Ps R) (k : Nat) : (X * f).cf (k + 1) = f.cf k := by
  show (if (0 : Nat) = 1 then (1 : R) else 0) * f.cf (k + 1) + cv (sh (fun k => if k = 1 then (1 : R) else 0)) f.cf k = _
  have : sh (fun k => if k = 1 then (1 : R) else 0) = kc 1 := by
    funext k
    cases k with
    | zero => rfl
    | succ k => show (if k + 1 + 1 = 1 then (1 : R) else 0) = 0; rw [if_neg (by omega)]
  rw [this, cv_kc, if_neg (by omega)]
  grind
theorem split (f : Ps R) : f = c (f.cf 0) + X * shp f := ext fun k => by
  rw [add_cf]
  cases k with
  | zero => rw [X_zero]; show f.cf 0 = f.cf 0 + 0; grind
  | succ k => rw [X_succ]; show f.cf (k + 1) = 0 + f.cf (k + 1); grind
def Bd (n : Nat) (f : Ps R) : Prop := ∀ k, n ≤ k → f.cf k = 0
theorem Bd.up {n m : Nat} {f : Ps R} (h : Bd n f) (l : n ≤ m) : Bd m f := fun k hk => h k (by omega)
theorem Bd.add {n : Nat} {f g : Ps R} (h : Bd n f) (k : Bd n g) : Bd n (f + g) := fun i hi => by rw [add_cf, h i hi, k i hi]; grind
theorem Bd.neg {n : Nat} {f : Ps R} (h : Bd n f) : Bd n (-f) := fun i hi => by rw [neg_cf, h i hi]; grind
theorem Bd.sub {n : Nat} {f g : Ps R} (h : Bd n f) (k : Bd n g) : Bd n (f - g) := fun i hi => by rw [sub_cf, h i hi, k i hi]; grind
theorem Bd.c (r : R) : Bd 1 (Ps.c r) := fun i hi => by rw [c_cf, if_neg (by omega)]
theorem Bd.zero : Bd 0 (0 : Ps R) := fun i hi => zero_cf (R := R) i
theorem Bd.shp {n : Nat} {f : Ps R} (h : Bd (n + 1) f) : Bd n (shp f) := fun i hi => h (i + 1) (by omega)
theorem Bd.nil {f : Ps R} (h : Bd 0 f) : f = 0 := ext fun k => by rw [h k (Nat.zero_le _), zero_cf]
theorem Bd.cmul {n : Nat} {f : Ps R} (r : R) (h : Bd n f) : Bd n (Ps.c r * f) := fun i hi => by rw [c_mul, h i hi]; grind
theorem Bd.Xmul {n : Nat} {f : Ps R} (h : Bd n f) : Bd (n + 1) (X * f) := fun i hi => by
  cases i with
  | zero => omega
  | succ i => rw [X_succ]; exact h i (by omega)
theorem Bd.mul : ∀ {n m : Nat} {f g : Ps R}, Bd n f → Bd m g → Bd (n + m - 1) (f * g)
  | 0, m, f, g, h, k => by
    rw [h.nil]
    have : (0 : Ps R) * g = 0 := by grind
    rw [this]; exact Bd.zero.up (by omega)
  | n + 1, m, f, g, h, k => by
    have ih := Bd.mul h.shp k
    have e : f * g = Ps.c (f.cf 0) * g + X * (Ps.shp f * g) := by
      conv => lhs; rw [split f]
      grind
    rw [e]
    cases n with
    | zero =>
      have : Ps.shp f = 0 := (Bd.shp (n := 0) h).nil
      rw [this]
      have z : X * (0 * g) = 0 := by grind
      rw [z]
      exact Bd.add ((Bd.cmul _ k).up (by omega)) (Bd.zero.up (by omega))
    | succ n =>
      exact Bd.add ((Bd.cmul _ k).up (by omega)) ((Bd.Xmul ih).up (by omega))
def ev : Nat → Ps R → R → R
  | 0, _, _ => 0
  | n + 1, f, x => f.cf 0 + x * ev n (shp f) x
theorem ev_zero (n : Nat) (x : R) : ev n (0 : Ps R) x = 0 := by
  induction n with
  | zero => rfl
  | succ n ih =>
    have : shp (0 : Ps R) = 0 := ext fun k => (zero_cf (R := R) (k + 1)).trans (zero_cf k).symm
    show (0 : Ps R).cf 0 + x * ev n (shp 0) x = 0
    rw [this, ih, zero_cf]; grind
theorem ev_up : ∀ {n m : Nat} {f : Ps R} (x : R), Bd n f → n ≤ m → ev m f x = ev n f x
  | 0, m, f, x, h, l => by rw [h.nil, ev_zero]; rfl
  | n + 1, 0, f, x, h, l => by omega
  | n + 1, m + 1, f, x, h, l => by
    show f.cf 0 + x * ev m (shp f) x = f.cf 0 + x * ev n (shp f) x
    rw [ev_up x h.shp (by omega)]
theorem ev_add (n : Nat) : ∀ (f g : Ps R) (x : R), ev n (f + g) x = ev n f x + ev n g x := by
  induction n with
  | zero => intro f g x; show (0 : R) = 0 + 0; grind
  | succ n ih =>
    intro f g x
    have := ih (shp f) (shp g) x
    show (f.cf 0 + g.cf 0) + x * ev n (shp f + shp g) x = _ + x * ev n (shp f) x + (_ + x * ev n (shp g) x)
    rw [this]
    grind
theorem ev_cmul (n : Nat) : ∀ (r : R) (f : Ps R) (x : R), ev n (c r * f) x = r * ev n f x := by
  induction n with
  | zero => intro r f x; show (0 : R) = r * 0; grind
  | succ n ih =>
    intro r f x
    have e : shp (c r * f) = c r * shp f := ext fun k => by
      show (c r * f).cf (k + 1) = _
      rw [c_mul, c_mul]; rfl
    show (c r * f).cf 0 + x * ev n (shp (c r * f)) x = r * (f.cf 0 + x * ev n (shp f) x)
    rw [e, ih, c_mul]
    grind
theorem ev_X (n : Nat) (f : Ps R) (x : R) : ev (n + 1) (X * f) x = x * ev n f x := by
  show (X * f).cf 0 + x * ev n (shp (X * f)) x = _
  have : shp (X * f) = f := ext fun k => X_succ f k
  rw [this, X_zero]; grind
theorem ev_mul : ∀ {n m l : Nat} {f g : Ps R} (x : R), Bd n f → Bd m g → n + m ≤ l → ev l (f * g) x = ev n f x * ev m g x
  | 0, m, l, f, g, x, h, k, e => by
    rw [h.nil]
    have : (0 : Ps R) * g = 0 := by grind
    rw [this, ev_zero]
    show (0 : R) = 0 * _
    grind
  | n + 1, m, 0, f, g, x, h, k, e => by omega
  | n + 1, m, l + 1, f, g, x, h, k, e => by
    have e1 : f * g = Ps.c (f.cf 0) * g + X * (Ps.shp f * g) := by
      conv => lhs; rw [split f]
      grind
    rw [e1, ev_add, ev_cmul, ev_X, ev_mul x h.shp k (by omega), ev_up x k (show m ≤ l + 1 by omega)]
    show _ = (f.cf 0 + x * ev n (shp f) x) * ev m g x
    grind
theorem ev_c (n : Nat) (r x : R) : ev (n + 1) (c r) x = r := by
  show r + x * ev n (shp (c r)) x = r
  have : shp (c r) = 0 := ext fun k => by rw [zero_cf]; rfl
  rw [this, ev_zero]; grind
end Ps
end Pd
set_option maxHeartbeats 2000000
namespace Pd
open PySem PySem.Spec L2
theorem ic_ne {d : Int} (h : d ≠ 0) : (d : Rat) ≠ 0 := fun z => h (Rat.intCast_inj.mp (by rw [z]; rfl))
theorem ic_eq {a b : Int} (h : (a : Rat) = (b : Rat)) : a = b := Rat.intCast_inj.mp h
theorem rat_div_eq {a b c d : Int} (hb : b ≠ 0) (hd : d ≠ 0) : (a : Rat) / b = (c : Rat) / d ↔ a * d = c * b := by
  have h1 := ic_ne hb
  have h2 := ic_ne hd
  constructor
  · intro h
    apply ic_eq
    rw [Rat.intCast_mul, Rat.intCast_mul]
    grind
  · intro h
    have : (a : Rat) * d = c * b := by rw [← Rat.intCast_mul, ← Rat.intCast_mul, h]
    grind
def fv (a : Fr) : Rat := (a.num : Rat) / (a.den : Rat)
structure FrS (a : Fr) (b : Nat) : Prop where
  pos : 0 < a.den
  cop : Int.gcd a.num a.den = 1
  n : Sm a.num b
  d : Sm a.den b
theorem FrS.up {a : Fr} {b c : Nat} (h : FrS a b) (l : b ≤ c) : FrS a c := ⟨h.pos, h.cop, h.n.up l, h.d.up l⟩
theorem FrS.ne {a : Fr} {b : Nat} (h : FrS a b) : (a.den : Rat) ≠ 0 := ic_ne (by have := h.pos; omega)
theorem FrS.num {a : Fr} {b : Nat} (h : FrS a b) : (a.num : Rat) = fv a * a.den := by
  have := h.ne
  unfold fv; grind
theorem frac_mk {n d : Int} {b : Nat} (hd : d ≠ 0) (h1 : Sm n b) (h2 : Sm d b) : v_Fraction_init n d ∧ FrS (q_Fraction_init n d) b ∧ fv (q_Fraction_init n d) = (n : Rat) / (d : Rat) := by
  obtain ⟨v, e⟩ := frac_spec (n := n) hd
  refine ⟨v, ?_, ?_⟩
  · rw [e]
    exact ⟨frQ_pos hd, fr_gcd hd, frP_sm hd h1, frQ_sm hd h2⟩
  · rw [e]
    show (frP n d : Rat) / (frQ n d : Rat) = _
    rw [rat_div_eq (by have := frQ_pos (n := n) hd; omega) hd]
    exact fr_cross hd
def po (xs : List Int) (d : Int) : Po := ⟨plC xs d, plD xs d⟩
theorem trim_spec {xs : List Int} : v_trimmed xs ∧ q_trimmed xs = trim xs := by
  have := whV_inv (t := fun (s1 : Int) => ((decide (s1 > (0 : Int))) && (decide ((gt xs (s1 - (1 : Int))) = (0 : Int))))) (Vt := fun (s1 : Int) => ((decide (s1 > (0 : Int))) = true → inR xs (s1 - (1 : Int)))) (f := fun (s1 : Int) => q_trimmed_2 xs s1) (V := fun (s1 : Int) => True)
    (fun n s => s = (n : Int) ∧ n ≤ xs.length ∧ tsz xs ≤ n) xs.length (s := (xs.length : Int)) ⟨rfl, Nat.le_refl _, tsz_le xs⟩ fun n s ⟨h1, h2, h3⟩ => by
      subst h1
      refine ⟨fun hp => by have := of_decide_eq_true hp; unfold inR; omega, ?_⟩
      cases n with
      | zero => left; rfl
      | succ n =>
        have e : ((n + 1 : Nat) : Int) - 1 = (n : Int) := by omega
        by_cases hz : co xs n = 0
        · right
          refine ⟨by rw [e, gt_co, hz]; simp, trivial, n, by omega, ?_, by omega, ?_⟩
          · show ((n + 1 : Nat) : Int) - 1 = _; omega
          · rcases Nat.lt_or_ge n (tsz xs) with l | l
            · exact absurd hz (by have := tsz_last xs (by omega); rwa [show tsz xs - 1 = n by omega] at this)
            · exact l
        · left
          rw [e, gt_co, decide_eq_false hz, Bool.and_false]
  obtain ⟨v, k, ⟨h1, h2, h3⟩, h4⟩ := this
  refine ⟨v, ?_⟩
  show cutT xs none (some (wh (fun (s1 : Int) => ((decide (s1 > (0 : Int))) && (decide ((gt xs (s1 - (1 : Int))) = (0 : Int))))) (fun (s1 : Int) => q_trimmed_2 xs s1) (xs.length : Int))) = _
  generalize wh (fun (s1 : Int) => ((decide (s1 > (0 : Int))) && (decide ((gt xs (s1 - (1 : Int))) = (0 : Int))))) (fun (s1 : Int) => q_trimmed_2 xs s1) (xs.length : Int) = s at *
  subst h1
  rw [cut_take h2]
  unfold trim
  congr 1
  cases k with
  | zero => omega
  | succ n =>
    have e : ((n + 1 : Nat) : Int) - 1 = (n : Int) := by omega
    have hz : co xs n ≠ 0 := fun z => by
      rw [e, gt_co, decide_eq_true z] at h4
      simp at h4
    rcases Nat.lt_or_ge n (tsz xs) with l | l
    · omega
    · exact absurd (tsz_zero xs n l) hz
theorem content_spec (xs : List Int) : q_content xs = (cont xs : Int) := by
  show xs.foldl (fun (s1 : Int) (x2 : Int) => (Int.gcd s1 x2 : Int)) 0 = _
  exact foldl_int xs 0
theorem polyInit_spec {xs : List Int} {d : Int} (hd : d ≠ 0) (hl : xs.length ≤ 10000000) : v_Poly_init xs d ∧ q_Poly_init xs d = po xs d := by
  obtain ⟨v, e⟩ := trim_spec (xs := xs)
  have es : q_Poly_init_5 d (trim xs) (Int.gcd (q_content (trim xs)) d : Int) = plS xs d := by
    show (if decide (d < 0) = true then -((Int.gcd (q_content (trim xs)) d : Nat) : Int) else ((Int.gcd (q_content (trim xs)) d : Nat) : Int)) = _
    rw [content_spec]
    unfold plS
    by_cases h : d < 0
    · rw [if_pos (decide_eq_true h), if_pos h]; rfl
    · rw [if_neg (by simpa using h), if_neg h]; rfl
  constructor
  · refine ⟨decide_eq_false hd, v, ?_⟩
    show v_Poly_init_6 d (q_trimmed xs) (q_Poly_init_5 d (q_trimmed xs) (Int.gcd (q_content (q_trimmed xs)) d : Int))
    rw [e, es]
    refine ⟨fun _ _ => plS_ne hd, line_le (by rw [trim_len]; have := tsz_le xs; omega), plS_ne hd⟩
  · show (⟨(q_Poly_init_6 d (q_trimmed xs) (q_Poly_init_5 d (q_trimmed xs) (Int.gcd (q_content (q_trimmed xs)) d : Int))).1, (q_Poly_init_6 d (q_trimmed xs) (q_Poly_init_5 d (q_trimmed xs) (Int.gcd (q_content (q_trimmed xs)) d : Int))).2⟩ : Po) = _
    rw [e, es]; rfl
structure PoS (p : Po) (n b : Nat) : Prop where
  pos : 0 < p.den
  cop : Nat.gcd (cont p.coefs) p.den.natAbs = 1
  last : p.coefs ≠ [] → co p.coefs (p.coefs.length - 1) ≠ 0
  len : p.coefs.length ≤ n
  c : ∀ k, Sm (co p.coefs k) b
  d : Sm p.den b
theorem PoS.up {p : Po} {n b m c : Nat} (h : PoS p n b) (l : n ≤ m) (l' : b ≤ c) : PoS p m c := ⟨h.pos, h.cop, h.last, by have := h.len; omega, fun k => (h.c k).up l', h.d.up l'⟩
def pv (p : Po) : Ps Rat := ⟨fun k => (co p.coefs k : Rat) / (p.den : Rat)⟩
def lv (xs : List Int) : Ps Rat := ⟨fun k => (co xs k : Rat)⟩
theorem PoS.ne {p : Po} {n b : Nat} (h : PoS p n b) : (p.den : Rat) ≠ 0 := ic_ne (by have := h.pos; omega)
theorem PoS.ne' {p : Po} {n b : Nat} (h : PoS p n b) : p.den ≠ 0 := by have := h.pos; omega
theorem PoS.tsz {p : Po} {n b : Nat} (h : PoS p n b) : tsz p.coefs = p.coefs.length := tsz_eq (fun k hk => co_ge hk) fun hn => h.last fun e => hn (by rw [e]; rfl)
theorem poly_mk {xs : List Int} {d : Int} {n b : Nat} (hd : d ≠ 0) (hl : xs.length ≤ n) (hn : n ≤ 10000000) (h1 : ∀ k, Sm (co xs k) b) (h2 : Sm d b) : v_Poly_init xs d ∧ PoS (q_Poly_init xs d) n b ∧ ∀ k, (pv (q_Poly_init xs d)).cf k = (co xs k : Rat) / (d : Rat) := by
  obtain ⟨v, e⟩ := polyInit_spec (xs := xs) hd (by omega)
  refine ⟨v, ?_, ?_⟩
  · rw [e]
    exact ⟨plD_pos hd, pl_gcd hd, plC_last hd, by show (plC xs d).length ≤ n; rw [plC_len]; have := tsz_le xs; omega, fun k => (h1 k).le (plC_small hd k), h2.le (plD_small hd)⟩
  · intro k
    rw [e]
    show (co (plC xs d) k : Rat) / (plD xs d : Rat) = _
    rw [rat_div_eq (by have := plD_pos (xs := xs) hd; omega) hd]
    exact pl_cross hd k
theorem po_self {p : Po} {n b : Nat} (h : PoS p n b) : po p.coefs p.den = p := by
  have t : trim p.coefs = p.coefs := by unfold trim; rw [h.tsz, List.take_length]
  have g : plS p.coefs p.den = 1 := by
    unfold plS
    rw [t, h.cop, if_neg (by have := h.pos; omega)]; rfl
  obtain ⟨xs, d⟩ := p
  show (⟨plC xs d, plD xs d⟩ : Po) = _
  unfold plC plD
  dsimp only at t g
  rw [t, g]
  congr 1
  · conv => rhs; rw [← List.map_id xs]
    exact List.map_congr_left fun x _ => by simp
  · simp
theorem pv_inj {p q : Po} {n b m c : Nat} (h : PoS p n b) (h' : PoS q m c) (e : ∀ k, (pv p).cf k = (pv q).cf k) : p = q := by
  rw [← po_self h, ← po_self h']
  obtain ⟨e1, e2⟩ := pl_canon (xs := p.coefs) (xs' := q.coefs) h.ne' h'.ne' fun k => (rat_div_eq h.ne' h'.ne').mp (e k)
  unfold po
  rw [e1, e2]
theorem pv_Bd {p : Po} {n b : Nat} (h : PoS p n b) : Ps.Bd n (pv p) := fun k hk => by
  show (co p.coefs k : Rat) / p.den = 0
  rw [co_ge (by have := h.len; omega)]
  grind
theorem pv_len {p : Po} {n b m : Nat} (h : PoS p n b) (l : Ps.Bd m (pv p)) : p.coefs.length ≤ m := by
  rcases Nat.lt_or_ge m p.coefs.length with q | q
  · have h0 := l (p.coefs.length - 1) (by omega)
    have h1 := h.last fun e => by rw [e] at q; simp at q
    have : (co p.coefs (p.coefs.length - 1) : Rat) / p.den = 0 := h0
    have h2 := h.ne
    have h3 := ic_ne h1
    grind
  · exact q
theorem PoS.coef {p : Po} {n b : Nat} (h : PoS p n b) (k : Nat) : (co p.coefs k : Rat) = (pv p).cf k * p.den := by
  have := h.ne
  show _ = (co p.coefs k : Rat) / p.den * p.den
  grind
end Pd
set_option maxHeartbeats 2000000
namespace Pd
open PySem PySem.Spec L2
theorem lv_cf (xs : List Int) (k : Nat) : (lv xs).cf k = (co xs k : Rat) := rfl
theorem lv_cons (a : Int) (xs : List Int) : lv (a :: xs) = Ps.c (a : Rat) + Ps.X * lv xs := Ps.ext fun k => by
  rw [Ps.add_cf]
  cases k with
  | zero => rw [Ps.X_zero]; show (a : Rat) = a + 0; grind
  | succ k => rw [Ps.X_succ]; show (co xs k : Rat) = 0 + (co xs k : Rat); grind
theorem lv_nil : lv [] = 0 := Ps.ext fun k => by rw [Ps.zero_cf]; show ((co [] k : Int) : Rat) = 0; rw [co_nil]; rfl
theorem lv_Bd {xs : List Int} {n : Nat} (h : xs.length ≤ n) : Ps.Bd n (lv xs) := fun k hk => by
  show ((co xs k : Int) : Rat) = 0
  rw [co_ge (by omega)]; rfl
theorem lv_mul (ys : List Int) : ∀ (xs : List Int) (k : Nat), (lv xs * lv ys).cf k = (mulc xs ys k : Rat)
  | [], k => by
    rw [lv_nil]
    have : (0 : Ps Rat) * lv ys = 0 := by grind
    rw [this, Ps.zero_cf]; rfl
  | a :: xs, k => by
    have e : lv (a :: xs) * lv ys = Ps.c (a : Rat) * lv ys + Ps.X * (lv xs * lv ys) := by rw [lv_cons]; grind
    rw [e, Ps.add_cf, Ps.c_mul]
    cases k with
    | zero =>
      rw [Ps.X_zero]
      show (a : Rat) * (co ys 0 : Rat) + 0 = ((a * co ys 0 + 0 : Int) : Rat)
      rw [Int.add_zero, Rat.intCast_mul]; grind
    | succ k =>
      rw [Ps.X_succ, lv_mul ys xs k]
      show (a : Rat) * (co ys (k + 1) : Rat) + (mulc xs ys k : Rat) = ((a * co ys (k + 1) + mulc xs ys k : Int) : Rat)
      rw [Rat.intCast_add, Rat.intCast_mul]
theorem pv_lv {p : Po} {n b : Nat} (h : PoS p n b) : lv p.coefs = Ps.c (p.den : Rat) * pv p := Ps.ext fun k => by
  rw [Ps.c_mul]
  show (co p.coefs k : Rat) = _
  rw [h.coef k]; grind
theorem mulc_sm {b c : Nat} {ys : List Int} (h2 : ∀ k, Sm (co ys k) c) : ∀ {xs : List Int}, (∀ k, Sm (co xs k) b) → ∀ k, Sm (mulc xs ys k) (b + c + xs.length)
  | [], _, k => Sm.zero (by have := (h2 0).pos; omega)
  | a :: xs, h1, k => by
    have ih := mulc_sm h2 (xs := xs) fun k => h1 (k + 1)
    have h0 : Sm (a * co ys k) (b + c) := (h1 0).mulUp (h2 k) (Nat.le_refl _)
    rw [List.length_cons]
    cases k with
    | zero =>
      show Sm (a * co ys 0 + 0) _
      rw [Int.add_zero]; exact h0.up (by omega)
    | succ k => exact (h0.addUp2 (ih k) (by omega) (by omega))
section
variable {a : Int} {ys zs r0 : List Int} {i j : Nat}
theorem row_step {r : List Int} (hl : r0.length = r.length) (hr : ∀ k, co r k = co r0 k + (if i ≤ k ∧ k < i + j then a * co ys (k - i) else 0)) (hij : i + j < r.length) :
    (setT r ((i : Int) + (j : Int)) (gt r ((i : Int) + (j : Int)) + a * co ys j)).length = r.length ∧ ∀ k, co (setT r ((i : Int) + (j : Int)) (gt r ((i : Int) + (j : Int)) + a * co ys j)) k = co r0 k + (if i ≤ k ∧ k < i + (j + 1) then a * co ys (k - i) else 0) := by
  have e : (i : Int) + (j : Int) = ((i + j : Nat) : Int) := by omega
  rw [e, setT_nat hij, gt_co]
  refine ⟨by rw [List.length_set], fun k => ?_⟩
  rw [co_set hij, hr (i + j)]
  by_cases h : k = i + j
  · subst h
    rw [if_pos rfl, if_neg (by omega), if_pos (by omega), Nat.add_sub_cancel_left]; omega
  · rw [if_neg h, hr k]
    by_cases h2 : i ≤ k ∧ k < i + j
    · rw [if_pos h2, if_pos (by omega)]
    · rw [if_neg h2, if_neg (by omega)]
end
theorem row_end {a : Int} {ys : List Int} {i : Nat} {x : Int} (k : Nat) : x + (if i ≤ k ∧ k < i + ys.length then a * co ys (k - i) else 0) = x + (if i ≤ k then a * co ys (k - i) else 0) := by
  by_cases h : i ≤ k
  · by_cases h2 : k < i + ys.length
    · rw [if_pos ⟨h, h2⟩, if_pos h]
    · rw [if_neg (by omega), if_pos h, co_ge (by omega)]; omega
  · rw [if_neg (by omega), if_neg h]
theorem take_succ_co {xs : List Int} {i : Nat} (h : i < xs.length) : xs.take (i + 1) = xs.take i ++ [co xs i] := by
  rw [List.take_succ, co_lt h]; rfl
theorem mulc_step {xs ys : List Int} {i : Nat} (h : i < xs.length) (k : Nat) : mulc (xs.take (i + 1)) ys k = mulc (xs.take i) ys k + (if i ≤ k then co xs i * co ys (k - i) else 0) := by
  rw [take_succ_co h, mulc_snoc, List.length_take, Nat.min_eq_left (by omega)]
section
variable {p q : Po} {n b m c : Nat}
theorem mul_spec (hp : PoS p n b) (hq : PoS q m c) (hb : b ≤ 40000000) (hc : c ≤ 40000000) (hn : n ≤ 1000000) (hm : m ≤ 1000000) : v_Poly_mul p q ∧ PoS (q_Poly_mul p q) (n + m - 1) (b + c + n) ∧ pv (q_Poly_mul p q) = pv p * pv q := by
  have ok : ∀ i j, mulOk (co p.coefs i) (co q.coefs j) = true := fun i j => mulOk_sm (hp.c i) (hq.c j) (by omega)
  have l1 := hp.len
  have l2 := hq.len
  have zl : ((rngT 0 ((p.coefs.length : Int) + (q.coefs.length : Int))).map fun (x1 : Int) => (0 : Int)) = List.replicate (p.coefs.length + q.coefs.length) 0 := by
    rw [rng_zeros]; congr 1
  have inner : ∀ (i : Nat) (r0 : List Int), i < p.coefs.length → r0.length = p.coefs.length + q.coefs.length → v_Poly_mul_2 p q r0 (i : Int) (co p.coefs i) ∧ (q_Poly_mul_2 p q r0 (i : Int) (co p.coefs i)).length = r0.length ∧ ∀ k, co (q_Poly_mul_2 p q r0 (i : Int) (co p.coefs i)) k = co r0 k + (if i ≤ k then co p.coefs i * co q.coefs (k - i) else 0) := by
    intro i r0 hi hr0
    have := forV_inv0 (V := fun (s3 : (List Int)) (x4 : Int × Int) => v_Poly_mul_3 p q s3 (i : Int) (co p.coefs i) x4.1 x4.2) (f := fun (s3 : (List Int)) (x4 : Int × Int) => q_Poly_mul_3 p q s3 (i : Int) (co p.coefs i) x4.1 x4.2) (xs := enT q.coefs) (s := r0)
      (fun j r => r0.length = r.length ∧ ∀ k, co r k = co r0 k + (if i ≤ k ∧ k < i + j then co p.coefs i * co q.coefs (k - i) else 0)) ⟨rfl, fun k => by rw [if_neg (by omega)]; omega⟩ fun j x r hx ⟨h1, h2⟩ => by
        obtain ⟨x1, x2⟩ := x
        obtain ⟨e1, e2⟩ := enT_get hx
        dsimp only at e1 e2
        have hj : j < q.coefs.length := (List.getElem?_eq_some_iff.mp e2).1
        rw [co_lt hj] at e2
        have e2 := Option.some.inj e2
        subst e1; subst e2
        obtain ⟨s1, s2⟩ := row_step h1 h2 (by omega : i + j < r.length)
        have iR : inR r ((i : Int) + (j : Int)) := by unfold inR; omega
        exact ⟨⟨iR, ok i j, iR⟩, h1.trans s1.symm, s2⟩
    obtain ⟨v, h1, h2⟩ := this
    refine ⟨v, ?_, fun k => ?_⟩
    · exact h1.symm
    · have := h2 k
      rw [show (enT q.coefs).length = q.coefs.length from enN_length _ _] at this
      rw [← row_end k]; exact this
  have outer := forV_inv0 (V := fun (s7 : (List Int)) (x8 : Int × Int) => v_Poly_mul_2 p q s7 x8.1 x8.2) (f := fun (s7 : (List Int)) (x8 : Int × Int) => q_Poly_mul_2 p q s7 x8.1 x8.2) (xs := enT p.coefs) (s := List.replicate (p.coefs.length + q.coefs.length) 0)
      (fun i r => r.length = p.coefs.length + q.coefs.length ∧ ∀ k, co r k = mulc (p.coefs.take i) q.coefs k) ⟨by simp, fun k => by rw [co_repl]; simp [mulc]⟩ fun i x r hx ⟨h1, h2⟩ => by
        obtain ⟨x1, x2⟩ := x
        obtain ⟨e1, e2⟩ := enT_get hx
        dsimp only at e1 e2
        have hi : i < p.coefs.length := (List.getElem?_eq_some_iff.mp e2).1
        rw [co_lt hi] at e2
        have e2 := Option.some.inj e2
        subst e1; subst e2
        obtain ⟨v, a1, a2⟩ := inner i r hi h1
        refine ⟨v, by show (q_Poly_mul_2 p q r (i : Int) (co p.coefs i)).length = _; omega, fun k => ?_⟩
        rw [mulc_step hi]
        show co (q_Poly_mul_2 p q r (i : Int) (co p.coefs i)) k = _
        rw [a2 k, h2 k]
  rw [show (enT p.coefs).length = p.coefs.length from enN_length _ _, List.take_length] at outer
  obtain ⟨v, h1, h2⟩ := outer
  have hd : p.den * q.den ≠ 0 := Int.mul_ne_zero hp.ne' hq.ne'
  have eq0 : q_Poly_mul p q = q_Poly_init (q_Poly_mul_4 p q (List.replicate (p.coefs.length + q.coefs.length) 0)) (p.den * q.den) := by
    show q_Poly_init (q_Poly_mul_4 p q ((rngT 0 ((p.coefs.length : Int) + (q.coefs.length : Int))).map fun (x1 : Int) => (0 : Int))) (p.den * q.den) = _
    rw [zl]
  have h1' : (q_Poly_mul_4 p q (List.replicate (p.coefs.length + q.coefs.length) 0)).length = p.coefs.length + q.coefs.length := h1
  have h2' : ∀ k, co (q_Poly_mul_4 p q (List.replicate (p.coefs.length + q.coefs.length) 0)) k = mulc p.coefs q.coefs k := h2
  obtain ⟨w, a1, a2⟩ := poly_mk (xs := q_Poly_mul_4 p q (List.replicate (p.coefs.length + q.coefs.length) 0)) (n := n + m) (b := b + c + n) hd (by omega) (by omega) (fun k => by rw [h2' k]; exact (mulc_sm hq.c hp.c k).up (by omega)) (hp.d.mulUp hq.d (by omega))
  have val : pv (q_Poly_mul p q) = pv p * pv q := Ps.ext fun k => by
    rw [eq0, a2 k, h2' k, ← lv_mul, pv_lv hp, pv_lv hq]
    have e : Ps.c (p.den : Rat) * pv p * (Ps.c (q.den : Rat) * pv q) = Ps.c ((p.den : Rat) * (q.den : Rat)) * (pv p * pv q) := by rw [Ps.c_mulc]; grind
    rw [e, Ps.c_mul, Rat.intCast_mul]
    have := hp.ne
    have := hq.ne
    grind
  refine ⟨?_, ?_, val⟩
  · refine ⟨rOk_of (by omega) (by omega), line_le (by rw [rngT_length]; omega), ?_⟩
    rw [zl]
    exact ⟨v, mulOk_sm hp.d hq.d (by omega), w⟩
  · rw [← eq0] at a1
    have := pv_len a1 (val ▸ Ps.Bd.mul (pv_Bd hp) (pv_Bd hq))
    exact ⟨a1.pos, a1.cop, a1.last, this, a1.c, a1.d⟩
theorem zip_co {xs ys : List Int} (h : xs.length = ys.length) (f : Int × Int → Int) (h0 : f (0, 0) = 0) (k : Nat) : co ((xs.zip ys).map f) k = f (co xs k, co ys k) := by
  by_cases hk : k < xs.length
  · have h1 := co_lt hk
    have h2 := co_lt (xs := ys) (k := k) (by omega)
    have h3 := co_lt (xs := (xs.zip ys).map f) (k := k) (by rw [List.length_map, List.length_zip]; omega)
    rw [List.getElem?_map, List.getElem?_zip_eq_some (z := (co xs k, co ys k)) |>.mpr ⟨h1, h2⟩] at h3
    exact (Option.some.inj h3).symm
  · rw [co_ge (by rw [List.length_map, List.length_zip]; omega), co_ge (by omega), co_ge (by omega), h0]
theorem add_spec (hp : PoS p n b) (hq : PoS q m c) (hb : b ≤ 40000000) (hc : c ≤ 40000000) (hn : n ≤ 1000000) (hm : m ≤ 1000000) : v_Poly_add p q ∧ PoS (q_Poly_add p q) (max n m) (b + c + 1) ∧ pv (q_Poly_add p q) = pv p + pv q := by
  have l1 := hp.len
  have l2 := hq.len
  have e1 : ∀ s : Int, s = max (p.coefs.length : Int) (q.coefs.length : Int) → repT ([(0 : Int)]) (s - (p.coefs.length : Int)) = List.replicate (max p.coefs.length q.coefs.length - p.coefs.length) 0 := fun s hs => by
    rw [rep_one]; congr 1; omega
  have e2 : ∀ s : Int, s = max (p.coefs.length : Int) (q.coefs.length : Int) → repT ([(0 : Int)]) (s - (q.coefs.length : Int)) = List.replicate (max p.coefs.length q.coefs.length - q.coefs.length) 0 := fun s hs => by
    rw [rep_one]; congr 1; omega
  have hd : p.den * q.den ≠ 0 := Int.mul_ne_zero hp.ne' hq.ne'
  have el : (p.coefs ++ List.replicate (max p.coefs.length q.coefs.length - p.coefs.length) 0).length = (q.coefs ++ List.replicate (max p.coefs.length q.coefs.length - q.coefs.length) 0).length := by simp; omega
  have hz : ∀ k, co (((p.coefs ++ List.replicate (max p.coefs.length q.coefs.length - p.coefs.length) 0).zip (q.coefs ++ List.replicate (max p.coefs.length q.coefs.length - q.coefs.length) 0)).map fun (x1 : Int × Int) => ((x1.1 * q.den) + (x1.2 * p.den))) k = co p.coefs k * q.den + co q.coefs k * p.den := fun k => by
    rw [zip_co el _ (by simp), co_pad, co_pad]
  obtain ⟨w, a1, a2⟩ := poly_mk (xs := (((p.coefs ++ List.replicate (max p.coefs.length q.coefs.length - p.coefs.length) 0).zip (q.coefs ++ List.replicate (max p.coefs.length q.coefs.length - q.coefs.length) 0)).map fun (x1 : Int × Int) => ((x1.1 * q.den) + (x1.2 * p.den)))) (n := max n m) (b := b + c + 1) hd (by simp; omega) (by omega) (fun k => by
    rw [hz k]
    exact ((hp.c k).mulUp hq.d (Nat.le_refl _)).addUp2 ((hq.c k).mulUp hp.d (Nat.le_refl _)) (by omega) (by omega)) (hp.d.mulUp hq.d (by omega))
  have eq0 : q_Poly_add p q = q_Poly_init (((p.coefs ++ List.replicate (max p.coefs.length q.coefs.length - p.coefs.length) 0).zip (q.coefs ++ List.replicate (max p.coefs.length q.coefs.length - q.coefs.length) 0)).map fun (x1 : Int × Int) => ((x1.1 * q.den) + (x1.2 * p.den))) (p.den * q.den) := by
    rw [← e1 _ rfl, ← e2 _ rfl]; rfl
  refine ⟨?_, by rw [eq0]; exact a1, Ps.ext fun k => ?_⟩
  · refine ⟨by omega, by rw [List.length_singleton]; exact line_le (by omega), ?_, by omega, by rw [List.length_singleton]; exact line_le (by omega), ?_, ?_⟩
    · rw [e1 _ rfl, List.length_replicate]; exact line_le (by omega)
    · rw [e2 _ rfl, List.length_replicate]; exact line_le (by omega)
    · rw [e1 _ rfl, e2 _ rfl]
      refine ⟨fun x hx => ?_, line_le (by rw [List.length_zip]; simp; omega), mulOk_sm hp.d hq.d (by omega), w⟩
      obtain ⟨i, hi⟩ := List.getElem?_of_mem hx
      obtain ⟨x1, x2⟩ := x
      obtain ⟨h1, h2⟩ := List.getElem?_zip_eq_some.mp hi
      dsimp only at h1 h2
      have c1 := co_pad p.coefs (max p.coefs.length q.coefs.length - p.coefs.length) i
      have c2 := co_pad q.coefs (max p.coefs.length q.coefs.length - q.coefs.length) i
      have d1 := co_lt (List.getElem?_eq_some_iff.mp h1).1
      have d2 := co_lt (List.getElem?_eq_some_iff.mp h2).1
      rw [h1] at d1
      rw [h2] at d2
      have d1 := Option.some.inj d1
      have d2 := Option.some.inj d2
      rw [c1] at d1
      rw [c2] at d2
      subst d1; subst d2
      exact ⟨mulOk_sm (hp.c i) hq.d (by omega), mulOk_sm (hq.c i) hp.d (by omega)⟩
  · rw [eq0, a2 k, hz k, Ps.add_cf, Rat.intCast_add, Rat.intCast_mul, Rat.intCast_mul, Rat.intCast_mul]
    show _ = (co p.coefs k : Rat) / p.den + (co q.coefs k : Rat) / q.den
    have := hp.ne
    have := hq.ne
    grind
end
end Pd
set_option maxHeartbeats 2000000
namespace Pd
open PySem PySem.Spec L2
def Drawn (xs : List Int) (n : Nat) : Prop := xs.length = n ∧ ∀ x ∈ xs, 0 ≤ x ∧ x < 1000000
theorem Drawn.app {xs : List Int} {n : Nat} {z : Int} (h : Drawn xs n) (h0 : 0 ≤ z ∧ z < 1000000) : Drawn (xs ++ [z]) (n + 1) := ⟨by simp [h.1], fun x hx => by
  rcases List.mem_append.mp hx with k | k
  · exact h.2 x k
  · rw [List.mem_singleton.mp k]; exact h0⟩
theorem Drawn.co {xs : List Int} {n : Nat} (h : Drawn xs n) (k : Nat) : 0 ≤ co xs k ∧ co xs k < 1000000 := by
  by_cases hk : k < xs.length
  · exact h.2 _ (List.mem_of_getElem? (co_lt hk))
  · rw [co_ge (by omega)]; omega
theorem Drawn.at {xs : List Int} {n : Nat} (h : Drawn xs n) {i : Int} (h0 : 0 ≤ i) (h1 : i < n) : inR xs i ∧ ∃ x : Int, gt xs i = x ∧ 0 ≤ x ∧ x < 1000000 := by
  obtain ⟨k, rfl⟩ := Int.eq_ofNat_of_zero_le h0
  refine ⟨inR_nat (by have := h.1; omega), _, gt_co xs k, h.co k⟩
theorem gt_mem {xs : List Int} {i : Int} (h : inR xs i) : gt xs i ∈ xs := by
  obtain ⟨j, h1, h2⟩ := inR_ix h
  unfold gt atI
  rw [h1]
  show (xs[j]?).getD default ∈ xs
  rw [List.getElem?_eq_getElem h2]
  exact List.getElem_mem h2
abbrev ci (e : Int) : Ps Rat := Ps.c (e : Rat)
theorem ci_mul (a b : Int) : ci (a * b) = ci a * ci b := by unfold ci; rw [Rat.intCast_mul, Ps.c_mulc]
theorem ci_one : ci 1 = 1 := rfl
theorem ci_can {e : Int} {f g : Ps Rat} (he : e ≠ 0) (h : ci e * f = ci e * g) : f = g := Ps.ext fun k => by
  have h1 : (ci e * f).cf k = (ci e * g).cf k := by rw [h]
  rw [Ps.c_mul, Ps.c_mul] at h1
  have := ic_ne he
  grind
structure LS (xs : List Int) (n b : Nat) : Prop where
  len : xs.length ≤ n
  c : ∀ k, Sm (co xs k) b
theorem LS.up {xs : List Int} {n b m c : Nat} (h : LS xs n b) (l : n ≤ m) (l' : b ≤ c) : LS xs m c := ⟨by have := h.len; omega, fun k => (h.c k).up l'⟩
theorem LS.nil {b : Nat} (h : 0 < b) : LS [] 0 b := ⟨Nat.le_refl _, fun k => by rw [co_nil]; exact Sm.zero h⟩
theorem LS.app {xs : List Int} {n b : Nat} {z : Int} (h : LS xs n b) (hz : Sm z b) : LS (xs ++ [z]) (n + 1) b := ⟨by have := h.len; simp; omega, fun k => by
  rw [co_app]
  split
  · exact h.c k
  · by_cases e : k - xs.length = 0
    · rw [e]; exact hz
    · rw [co_ge (by simp; omega)]; exact Sm.zero (h.c 0).pos⟩
theorem LS.mem {xs : List Int} {n b : Nat} (h : LS xs n b) {x : Int} (hx : x ∈ xs) : Sm x b := by
  obtain ⟨i, hi⟩ := List.getElem?_of_mem hx
  have := co_lt (List.getElem?_eq_some_iff.mp hi).1
  rw [hi] at this
  rw [Option.some.inj this]
  exact h.c i
theorem LS.po {xs : List Int} {n b : Nat} {d : Int} (h : LS xs n b) (hd : d ≠ 0) (hn : n ≤ 10000000) (h2 : Sm d b) : v_Poly_init xs d ∧ PoS (q_Poly_init xs d) n b ∧ lv xs = ci d * pv (q_Poly_init xs d) := by
  obtain ⟨v, s, e⟩ := poly_mk hd h.len hn h.c h2
  refine ⟨v, s, Ps.ext fun k => ?_⟩
  have := ic_ne hd
  rw [Ps.c_mul, e k, lv_cf]
  grind
theorem PoS.ls {p : Po} {n b : Nat} (h : PoS p n b) : LS p.coefs n b := ⟨h.len, h.c⟩
section
variable {xs ys : List Int} {n b m c : Nat}
theorem product_spec (hp : LS xs n b) (hq : LS ys m c) (hb : b ≤ 40000000) (hc : c ≤ 40000000) (hn : n ≤ 1000000) (hm : m ≤ 1000000) : v_law_product xs ys ∧ LS (q_law_product xs ys) (n + m) (b + c + n) ∧ lv (q_law_product xs ys) = lv xs * lv ys := by
  have ok : ∀ i j, mulOk (co xs i) (co ys j) = true := fun i j => mulOk_sm (hp.c i) (hq.c j) (by omega)
  have l1 := hp.len
  have l2 := hq.len
  have zl : ((rngT 0 ((xs.length : Int) + (ys.length : Int))).map fun (x1 : Int) => (0 : Int)) = List.replicate (xs.length + ys.length) 0 := by
    rw [rng_zeros]; congr 1
  have inner : ∀ (i : Nat) (r0 : List Int), i < xs.length → r0.length = xs.length + ys.length → v_law_product_2 xs ys r0 (i : Int) ∧ (q_law_product_2 xs ys r0 (i : Int)).length = r0.length ∧ ∀ k, co (q_law_product_2 xs ys r0 (i : Int)) k = co r0 k + (if i ≤ k then co xs i * co ys (k - i) else 0) := by
    intro i r0 hi hr0
    have := forV_inv0 (V := fun (s3 : (List Int)) (x4 : Int) => v_law_product_3 xs ys s3 (i : Int) x4) (f := fun (s3 : (List Int)) (x4 : Int) => q_law_product_3 xs ys s3 (i : Int) x4) (xs := rngT 0 (ys.length : Int)) (s := r0)
      (fun j r => r0.length = r.length ∧ ∀ k, co r k = co r0 k + (if i ≤ k ∧ k < i + j then co xs i * co ys (k - i) else 0)) ⟨rfl, fun k => by rw [if_neg (by omega)]; omega⟩ fun j x r hx ⟨h1, h2⟩ => by
        obtain ⟨hj, e⟩ := rngT0_get hx
        subst e
        obtain ⟨s1, s2⟩ := row_step h1 h2 (by omega : i + j < r.length)
        have iR : inR r ((i : Int) + (j : Int)) := by unfold inR; omega
        have k1 : gt xs (i : Int) = co xs i := gt_co _ _
        have k2 : gt ys (j : Int) = co ys j := gt_co _ _
        have e : q_law_product_3 xs ys r (i : Int) (j : Int) = setT r ((i : Int) + (j : Int)) (gt r ((i : Int) + (j : Int)) + co xs i * co ys j) := by unfold q_law_product_3; rw [k1, k2]
        refine ⟨⟨iR, inR_nat hi, inR_nat hj, by rw [k1, k2]; exact ok i j, iR⟩, ?_⟩
        show r0.length = (q_law_product_3 xs ys r (i : Int) (j : Int)).length ∧ ∀ k, co (q_law_product_3 xs ys r (i : Int) (j : Int)) k = _
        rw [e]
        exact ⟨h1.trans s1.symm, s2⟩
    obtain ⟨v, h1, h2⟩ := this
    refine ⟨⟨rOk_nat (by omega), v⟩, h1.symm, fun k => ?_⟩
    have := h2 k
    rw [rngT0_length] at this
    rw [← row_end k]; exact this
  have outer := forV_inv0 (V := fun (s7 : (List Int)) (x8 : Int) => v_law_product_2 xs ys s7 x8) (f := fun (s7 : (List Int)) (x8 : Int) => q_law_product_2 xs ys s7 x8) (xs := rngT 0 (xs.length : Int)) (s := List.replicate (xs.length + ys.length) 0)
      (fun i r => r.length = xs.length + ys.length ∧ ∀ k, co r k = mulc (xs.take i) ys k) ⟨by simp, fun k => by rw [co_repl]; simp [mulc]⟩ fun i x r hx ⟨h1, h2⟩ => by
        obtain ⟨hi, e⟩ := rngT0_get hx
        subst e
        obtain ⟨v, a1, a2⟩ := inner i r hi h1
        refine ⟨v, a1.trans h1, fun k => ?_⟩
        rw [mulc_step hi]
        show co (q_law_product_2 xs ys r (i : Int)) k = _
        rw [a2 k, h2 k]
  rw [rngT0_length, List.take_length] at outer
  obtain ⟨v, h1, h2⟩ := outer
  have eq0 : q_law_product xs ys = (rngT 0 (xs.length : Int)).foldl (fun (s7 : (List Int)) (x8 : Int) => q_law_product_2 xs ys s7 x8) (List.replicate (xs.length + ys.length) 0) := by
    show (rngT 0 (xs.length : Int)).foldl (fun (s7 : (List Int)) (x8 : Int) => q_law_product_2 xs ys s7 x8) ((rngT 0 ((xs.length : Int) + (ys.length : Int))).map fun (x1 : Int) => (0 : Int)) = _
    rw [zl]
  refine ⟨⟨rOk_of (by omega) (by omega), line_le (by rw [rngT_length]; omega), rOk_nat (by omega), ?_⟩, ⟨by rw [eq0, h1]; omega, fun k => by rw [eq0, h2 k]; exact (mulc_sm hq.c hp.c k).up (by omega)⟩, Ps.ext fun k => ?_⟩
  · rw [zl]; exact v
  · rw [lv_cf, eq0, h2 k, lv_mul]
theorem add_loop {r0 : List Int} {f : Int} {zs : List Int} (hl : zs.length ≤ r0.length) : ∀ j, j ≤ zs.length → ∀ r, (r.length = r0.length ∧ ∀ k, co r k = co r0 k + (if k < j then f * co zs k else 0)) → j < zs.length → (setT r (j : Int) (gt r (j : Int) + f * gt zs (j : Int))).length = r0.length ∧ ∀ k, co (setT r (j : Int) (gt r (j : Int) + f * gt zs (j : Int))) k = co r0 k + (if k < j + 1 then f * co zs k else 0) := by
  intro j hj r ⟨h1, h2⟩ hj'
  rw [setT_nat (by omega), gt_co, gt_co]
  refine ⟨by rw [List.length_set, h1], fun k => ?_⟩
  rw [co_set (by omega), h2 j]
  by_cases e : k = j
  · subst e
    rw [if_pos rfl, if_neg (by omega), if_pos (by omega)]; omega
  · rw [if_neg e, h2 k]
    by_cases l : k < j
    · rw [if_pos l, if_pos (by omega)]
    · rw [if_neg l, if_neg (by omega)]
end
end Pd
set_option maxHeartbeats 2000000
namespace Pd
open PySem PySem.Spec L2
def hz (x : Int) : List Int → Int
  | [] => 0
  | a :: as => a + x * hz x as
theorem hz_ev (x : Int) : ∀ (xs : List Int), Ps.ev xs.length (lv xs) (x : Rat) = (hz x xs : Rat)
  | [] => rfl
  | a :: as => by
    have e : Ps.shp (lv (a :: as)) = lv as := rfl
    show (a : Rat) + x * Ps.ev as.length (Ps.shp (lv (a :: as))) x = ((a + x * hz x as : Int) : Rat)
    rw [e, hz_ev x as, Rat.intCast_add, Rat.intCast_mul]
theorem hz_sm {x : Int} {b s : Nat} (hx : Sm x s) : ∀ {xs : List Int}, (∀ k, Sm (co xs k) b) → Sm (hz x xs) (b + xs.length * (s + 1))
  | [], h => Sm.zero (by have := (h 0).pos; simp; omega)
  | a :: as, h => by
    have ih := hz_sm hx (xs := as) fun k => h (k + 1)
    have h0 : Sm a b := h 0
    have e : (a :: as).length * (s + 1) = as.length * (s + 1) + (s + 1) := by rw [List.length_cons, Nat.succ_mul]
    rw [e]
    show Sm (a + x * hz x as) _
    exact h0.addUp2 (hx.mulUp ih (Nat.le_refl _)) (by omega) (by omega)
theorem rev_at {α : Type} {xs : List α} {i : Nat} {x : α} (h : xs.reverse[i]? = some x) : i < xs.length ∧ xs[xs.length - 1 - i]? = some x := by
  have hi : i < xs.reverse.length := (List.getElem?_eq_some_iff.mp h).1
  rw [List.length_reverse] at hi
  rw [List.getElem?_reverse hi] at h
  exact ⟨hi, h⟩
theorem ls_drop {xs : List Int} {n b : Nat} (h : LS xs n b) (j : Nat) : ∀ k, Sm (co (xs.drop j) k) b := fun k => by rw [co_drop]; exact h.c _
section
variable {p : Po} {n b : Nat}
theorem at_spec {x : Int} {s : Nat} (hp : PoS p n b) (hx : Sm x s) (hn : n ≤ 1000000) (hb : b + n * (s + 1) ≤ 40000000) (hs : s ≤ 40000000) : v_Poly_at p x ∧ FrS (q_Poly_at p x) (b + n * (s + 1)) ∧ fv (q_Poly_at p x) = Ps.ev n (pv p) (x : Rat) := by
  have l1 := hp.len
  have lm : p.coefs.length * (s + 1) ≤ n * (s + 1) := Nat.mul_le_mul_right _ l1
  have lp := forV_inv0 (V := fun (s1 : Int) (x2 : Int) => v_Poly_at_2 p x s1 x2) (f := fun (s1 : Int) (x2 : Int) => q_Poly_at_2 p x s1 x2) (xs := p.coefs.reverse) (s := 0)
    (fun i t => t = hz x (p.coefs.drop (p.coefs.length - i))) (by rw [Nat.sub_zero, List.drop_length]; rfl) fun i y t hy ht => by
      obtain ⟨hi, e⟩ := rev_at hy
      rw [co_lt (by omega)] at e
      have e := Option.some.inj e
      have ds := drop_cons (xs := p.coefs) (j := p.coefs.length - 1 - i) (by omega)
      rw [show p.coefs.length - 1 - i + 1 = p.coefs.length - i by omega] at ds
      have sz := hz_sm (x := x) hx (ls_drop hp.ls (p.coefs.length - i))
      have le : (p.coefs.drop (p.coefs.length - i)).length * (s + 1) ≤ p.coefs.length * (s + 1) := Nat.mul_le_mul_right _ (by rw [List.length_drop]; omega)
      rw [← ht] at sz
      refine ⟨mulOk_sm sz hx (by omega), ?_⟩
      show t * x + y = hz x (p.coefs.drop (p.coefs.length - (i + 1)))
      rw [show p.coefs.length - (i + 1) = p.coefs.length - 1 - i by omega, ds]
      show t * x + y = co p.coefs (p.coefs.length - 1 - i) + x * hz x (p.coefs.drop (p.coefs.length - i))
      rw [← ht, e, Int.mul_comm, Int.add_comm]
  rw [List.length_reverse, Nat.sub_self, List.drop_zero] at lp
  obtain ⟨v, e⟩ := lp
  have sz := hz_sm (x := x) hx hp.ls.c
  have e' : q_Poly_at_3 p x 0 = hz x p.coefs := e
  obtain ⟨w, s1, e1⟩ := frac_mk (n := hz x p.coefs) (d := p.den) (b := b + n * (s + 1)) hp.ne' (sz.up (by omega)) (hp.d.up (by omega))
  refine ⟨⟨v, ?_⟩, ?_, ?_⟩
  · show v_Fraction_init (q_Poly_at_3 p x 0) p.den
    rw [e']; exact w
  · show FrS (q_Fraction_init (q_Poly_at_3 p x 0) p.den) _
    rw [e']; exact s1
  · show fv (q_Fraction_init (q_Poly_at_3 p x 0) p.den) = _
    rw [e', e1, ← hz_ev, Ps.ev_up (n := p.coefs.length) (m := n) _ (fun k hk => by show (co p.coefs k : Rat) / p.den = 0; rw [co_ge hk]; grind) l1, pv_lv hp, Ps.ev_cmul]
    have := hp.ne
    grind
end
end Pd
set_option maxHeartbeats 2000000
namespace Pd
open PySem PySem.Spec L2
namespace Ps
open Lean.Grind
variable {R : Type} [CommRing R]
theorem mul_top : ∀ {n m : Nat} {f g : Ps R}, Bd (n + 1) f → Bd (m + 1) g → (f * g).cf (n + m) = f.cf n * g.cf m
  | 0, m, f, g, h, k => by
    have e : f * g = Ps.c (f.cf 0) * g + X * (Ps.shp f * g) := by
      conv => lhs; rw [split f]
      grind
    have z : Ps.shp f = 0 := (Bd.shp (n := 0) h).nil
    rw [e, z]
    have z2 : X * (0 * g) = 0 := by grind
    rw [z2, add_cf, zero_cf, c_mul, Nat.zero_add]
    grind
  | n + 1, m, f, g, h, k => by
    have e : f * g = Ps.c (f.cf 0) * g + X * (Ps.shp f * g) := by
      conv => lhs; rw [split f]
      grind
    have ih := mul_top (n := n) (m := m) h.shp k
    rw [e, show n + 1 + m = (n + m) + 1 by omega, add_cf, X_succ, ih, c_mul, k _ (by omega)]
    show f.cf 0 * 0 + f.cf (n + 1) * g.cf m = _
    grind
end Ps
theorem po_zero (p : Po) : q_Poly_is_zero p = decide (p.coefs.length = 0) := by
  show decide (((p.coefs.length : Nat) : Int) = 0) = _
  rw [decide_eq_decide]; omega
theorem rngD_length (a : Int) (n : Nat) : (rngD a n).length = n := by
  induction n generalizing a with
  | zero => rfl
  | succ n ih => simp [rngD, ih]
theorem rngD_get {a : Int} {n i : Nat} {x : Int} (h : (rngD a n)[i]? = some x) : i < n ∧ x = a - i := by
  induction n generalizing a i with
  | zero => simp [rngD] at h
  | succ n ih =>
    cases i with
    | zero => simp [rngD] at h; exact ⟨by omega, by rw [← h]; simp⟩
    | succ i =>
      obtain ⟨h1, h2⟩ := ih (a := a + -1) (i := i) (by simpa [rngD] using h)
      exact ⟨by omega, by rw [h2]; push_cast; omega⟩
theorem lv_map (f : Int) (xs : List Int) : lv (xs.map fun (x : Int) => f * x) = ci f * lv xs := Ps.ext fun k => by
  rw [Ps.c_mul, lv_cf, lv_cf, co_map (fun x => f * x) (by simp), Rat.intCast_mul]
section
variable {p q : Po} {n b m c : Nat}
end
end Pd
set_option maxHeartbeats 2000000
namespace Pd
open PySem PySem.Spec L2
theorem syn_smc {s : Int} {c b : Nat} (hs : Sm s c) : ∀ (t : List Int), (∀ k, Sm (co t k) b) → ∀ k, Sm (co (syn s t) k) (b + (c + 1) * t.length)
  | [], h, k => by
    show Sm (co [] k) _
    rw [co_nil]
    exact Sm.zero (by have := (h 0).pos; omega)
  | a :: t, h, k => by
    have ih := syn_smc hs t fun k => h (k + 1)
    have e : (c + 1) * (a :: t).length = (c + 1) * t.length + (c + 1) := by rw [List.length_cons, Nat.mul_succ]
    rw [e]
    cases k with
    | zero =>
      show Sm (a + s * co (syn s t) 0) _
      have h0 : Sm a b := h 0
      exact h0.addUp2 (hs.mulUp (ih 0) (Nat.le_refl _)) (by omega) (by omega)
    | succ k => exact (ih k).up (by omega)
theorem shc_sm {s : Int} {c b : Nat} (hs : Sm s c) : ∀ (t : List Int), (∀ k, Sm (co t k) b) → ∀ k, Sm (shc s t k) (b + (c + 1) * t.length)
  | [], h, k => Sm.zero (by have := (h 0).pos; omega)
  | a :: t, h, k => by
    have ih := shc_sm hs t fun k => h (k + 1)
    have e : (c + 1) * (a :: t).length = (c + 1) * t.length + (c + 1) := by rw [List.length_cons, Nat.mul_succ]
    rw [e]
    have z := hs.mulUp (ih k) (Nat.le_refl _)
    cases k with
    | zero =>
      show Sm (a + s * shc s t 0) _
      have h0 : Sm a b := h 0
      exact h0.addUp2 z (by omega) (by omega)
    | succ k =>
      show Sm (shc s t k + s * shc s t (k + 1)) _
      exact (ih k).addUp2 z (by omega) (by omega)
section
variable {p : Po} {n b c : Nat} {s : Int}
theorem shift_round {L : List Int} {B N i : Nat} (hL : L.length = N) (hi : i < N) (hN : N ≤ 100000) (hB : ∀ k, Sm (co L k) B) (hs : Sm s c) (hb : B + (c + 1) * N + c ≤ 90000000) : v_Poly_shifted_2 p s L (i : Int) ∧ q_Poly_shifted_2 p s L (i : Int) = wj s L i := by
  have st0 : wj s L (N - 1) = L := wj_last s (n := N - 1) (by omega)
  have lp := forV_inv0 (V := fun (s1 : (List Int)) (x2 : Int) => v_Poly_shifted_3 p s s1 x2) (f := fun (s1 : (List Int)) (x2 : Int) => q_Poly_shifted_3 p s s1 x2) (xs := rngDT ((L.length : Int) - 2) ((i : Int) - 1)) (s := L)
    (fun m r => r = wj s L (N - 1 - m)) (by rw [Nat.sub_zero, st0]) fun m x r hx hr => by
      obtain ⟨hm, e⟩ := rngD_get hx
      have hm' : m < N - 1 - i := by omega
      have e' : x = ((N - 2 - m : Nat) : Int) := by omega
      subst e'
      subst hr
      have e1 : N - 1 - m = (N - 2 - m) + 1 := by omega
      rw [e1]
      have l1 := wj_len s L (N - 2 - m + 1)
      have ea : ((N - 2 - m : Nat) : Int) + 1 = ((N - 2 - m + 1 : Nat) : Int) := by omega
      have sm : Sm (co (wj s L (N - 2 - m + 1)) (N - 2 - m + 1)) (B + (c + 1) * N) := by
        rw [wj_co s L _ _ (by omega), if_neg (by omega)]
        have := syn_smc hs (L.drop (N - 2 - m + 1)) (b := B) (fun k => by rw [co_drop]; exact hB _) (N - 2 - m + 1 - (N - 2 - m + 1))
        exact this.up (Nat.add_le_add_left (Nat.mul_le_mul_left _ (by rw [List.length_drop]; omega)) _)
      refine ⟨⟨inR_nat (by omega), ?_, ?_, inR_nat (by omega)⟩, ?_⟩
      · rw [ea]; exact inR_nat (by omega)
      · rw [ea, gt_co]; exact mulOk_sm hs sm (by omega)
      · show setT _ _ (gt _ _ + s * gt _ _) = _
        rw [ea, gt_co, gt_co, setT_nat (by omega), wj_step s (by omega)]
        congr 1
        omega
  rw [rngD_length, show (((L.length : Int) - 2) - ((i : Int) - 1)).toNat = N - 1 - i by omega, show N - 1 - (N - 1 - i) = i by omega] at lp
  exact ⟨⟨rOk_of (by omega) (by omega), rOk_of (by omega) (by omega), lp.1⟩, lp.2⟩
theorem shift_list (hx : LS p.coefs n b) (hs : Sm s c) (hn : n ≤ 1000) (hb : b + (c + 1) * n * n + c ≤ 90000000) : rOk ((p.coefs.length : Int) - 1) = true ∧ forV (fun (s4 : (List Int)) (x5 : Int) => v_Poly_shifted_2 p s s4 x5) (fun (s4 : (List Int)) (x5 : Int) => q_Poly_shifted_2 p s s4 x5) (rngT 0 ((p.coefs.length : Int) - 1)) p.coefs ∧ (q_Poly_shifted_4 p s p.coefs).length = p.coefs.length ∧ ∀ k, co (q_Poly_shifted_4 p s p.coefs) k = shc s p.coefs k := by
  have l1 := hx.len
  have lp := forV_inv0 (V := fun (s4 : (List Int)) (x5 : Int) => v_Poly_shifted_2 p s s4 x5) (f := fun (s4 : (List Int)) (x5 : Int) => q_Poly_shifted_2 p s s4 x5) (xs := rngT 0 ((p.coefs.length : Int) - 1)) (s := p.coefs)
    (fun i L => L.length = p.coefs.length ∧ (∀ k, Sm (co L k) (b + i * ((c + 1) * n))) ∧ (∀ k, k < i → co L k = shc s p.coefs k) ∧ ∀ k, shc s p.coefs (i + k) = shc s (L.drop i) k) ⟨rfl, fun k => by rw [Nat.zero_mul]; exact hx.c k, fun k hk => by omega, fun k => by rw [Nat.zero_add, List.drop_zero]⟩ fun i x L hx2 ⟨h1, h2, h3, h4⟩ => by
      obtain ⟨hi, e⟩ := rngT_get hx2
      have e' : x = (i : Int) := by omega
      subst e'
      have m1 : i * ((c + 1) * n) + (c + 1) * n ≤ (c + 1) * n * n := by
        rw [← Nat.succ_mul, Nat.mul_comm ((c + 1) * n) n]
        exact Nat.mul_le_mul_right _ (by omega)
      have m2 : (c + 1) * p.coefs.length ≤ (c + 1) * n := Nat.mul_le_mul_left _ l1
      have m3 : (i + 1) * ((c + 1) * n) = i * ((c + 1) * n) + (c + 1) * n := Nat.succ_mul _ _
      obtain ⟨v, e⟩ := shift_round (p := p) (L := L) (N := p.coefs.length) (i := i) h1 (by omega) (by omega) h2 hs (by omega)
      refine ⟨v, ?_⟩
      show (q_Poly_shifted_2 p s L (i : Int)).length = _ ∧ _
      rw [e]
      obtain ⟨t1, t2⟩ := shc_syn s (L.drop i)
      refine ⟨by rw [wj_len, h1], fun k => ?_, fun k hk => ?_, fun k => ?_⟩
      · rw [wj_co s L i k (by omega)]
        split
        · exact (h2 k).up (by omega)
        · have := syn_smc hs (L.drop i) (b := b + i * ((c + 1) * n)) (fun k => by rw [co_drop]; exact h2 _) (k - i)
          have m4 : (c + 1) * (L.drop i).length ≤ (c + 1) * n := Nat.mul_le_mul_left _ (by rw [List.length_drop]; omega)
          exact this.up (by omega)
      · rw [wj_co s L i k (by omega)]
        by_cases hk' : k < i
        · rw [if_pos hk']; exact h3 k hk'
        · rw [if_neg hk', show k = i by omega, Nat.sub_self, ← t1]
          exact (h4 0).symm
      · rw [show i + 1 + k = i + (k + 1) by omega, h4 (k + 1), t2 k]
        congr 1
        unfold wj
        have z : (L.take i).drop (i + 1) = [] := List.drop_of_length_le (by rw [List.length_take]; omega)
        rw [List.drop_append, z, List.length_take, Nat.min_eq_left (by omega), show i + 1 - i = 1 by omega, List.nil_append, List.drop_one]
  obtain ⟨v, h1, h2, h3, h4⟩ := lp
  refine ⟨rOk_of (by omega) (by omega), v, h1, fun k => ?_⟩
  rw [rngT_length] at h3 h4
  generalize hT : (rngT 0 ((p.coefs.length : Int) - 1)).foldl (fun (s4 : (List Int)) (x5 : Int) => q_Poly_shifted_2 p s s4 x5) p.coefs = T at h1 h2 h3 h4
  have hT' : q_Poly_shifted_4 p s p.coefs = T := hT
  rw [hT']
  have ec : ((p.coefs.length : Int) - 1 - 0).toNat = p.coefs.length - 1 := by omega
  rw [ec] at h3 h4
  by_cases hk : k < p.coefs.length - 1
  · exact h3 k hk
  · by_cases hk2 : k < p.coefs.length
    · have hk3 : k = p.coefs.length - 1 := by omega
      have h5 := h4 0
      rw [Nat.add_zero, drop_cons (by omega), List.drop_of_length_le (by omega)] at h5
      rw [hk3, h5]
      show co T (p.coefs.length - 1) = co T (p.coefs.length - 1) + s * (0 : Int)
      rw [Int.mul_zero, Int.add_zero]
    · rw [co_ge (by omega), shc_ge s _ _ (by omega)]
theorem shifted_spec (hp : PoS p n b) (hs : Sm s c) (hn : n ≤ 1000) (hb : b + (c + 1) * n * n + c ≤ 90000000) : v_Poly_shifted p s ∧ PoS (q_Poly_shifted p s) n (b + (c + 1) * n) ∧ ∀ k, (pv (q_Poly_shifted p s)).cf k = (shc s p.coefs k : Rat) / (p.den : Rat) := by
  obtain ⟨h1, h2, h3, h4⟩ := shift_list hp.ls hs hn hb
  have l1 := hp.len
  have m1 : (c + 1) * p.coefs.length ≤ (c + 1) * n := Nat.mul_le_mul_left _ l1
  obtain ⟨v, s1, e⟩ := poly_mk (xs := q_Poly_shifted_4 p s p.coefs) (d := p.den) (n := n) (b := b + (c + 1) * n) hp.ne' (by omega) (by omega) (fun k => by rw [h4 k]; exact (shc_sm hs p.coefs hp.c k).up (by omega)) (hp.d.up (by omega))
  refine ⟨⟨h1, h2, v⟩, s1, fun k => ?_⟩
  show (pv (q_Poly_init (q_Poly_shifted_4 p s p.coefs) p.den)).cf k = _
  rw [e k, h4 k]
end
theorem shF_comp (s t : Int) : ∀ (xs : List Int) (k : Nat), shF t (shc s xs) xs.length k = shc (s + t) xs k
  | [], k => rfl
  | a :: xs, k => by
    have ih := shF_comp s t xs
    have hz : ∀ i, xs.length ≤ i → shc s xs i = 0 := fun i hi => shc_ge s xs i hi
    have l1 := shF_lin t s (xs.length + 1) (fun i => (if i = 0 then a else 0) + 1 * sft (shc s xs) i) (shc s xs) (shc s (a :: xs)) k fun i => by
      cases i with
      | zero => show a + s * shc s xs 0 = a + 1 * 0 + s * shc s xs 0; omega
      | succ i => show shc s xs i + s * shc s xs (i + 1) = 0 + 1 * shc s xs i + s * shc s xs (i + 1); omega
    have l2 := shF_lin t 1 (xs.length + 1) (fun i => if i = 0 then a else 0) (sft (shc s xs)) (fun i => (if i = 0 then a else 0) + 1 * sft (shc s xs) i) k fun i => rfl
    have l3 := shF_sft t (shc s xs) xs.length k
    have l4 := shF_more t xs.length (shc s xs) k hz
    have l5 : shF t (fun i => if i = 0 then a else 0) (xs.length + 1) k = if k = 0 then a else 0 := by
      have z : ∀ k, shF t (fun i => if i + 1 = 0 then a else 0) xs.length k = 0 := fun k => shF_zero _ _ _ _ fun i => if_neg (by omega)
      cases k with
      | zero =>
        show a + t * shF t (fun i => if i + 1 = 0 then a else 0) xs.length 0 = a
        rw [z, Int.mul_zero, Int.add_zero]
      | succ k =>
        show shF t (fun i => if i + 1 = 0 then a else 0) xs.length k + t * shF t (fun i => if i + 1 = 0 then a else 0) xs.length (k + 1) = 0
        rw [z, z, Int.mul_zero, Int.add_zero]
    rw [List.length_cons, l1, l2, l3, l4, l5, ih]
    cases k with
    | zero =>
      show a + 1 * (0 + t * shc (s + t) xs 0) + s * shc (s + t) xs 0 = a + (s + t) * shc (s + t) xs 0
      generalize shc (s + t) xs 0 = x
      grind
    | succ k =>
      show 0 + 1 * (shF t (shc s xs) xs.length k + t * shc (s + t) xs (k + 1)) + s * shc (s + t) xs (k + 1) = shc (s + t) xs k + (s + t) * shc (s + t) xs (k + 1)
      rw [ih]
      generalize shc (s + t) xs (k + 1) = x
      generalize shc (s + t) xs k = y
      grind
end Pd
set_option maxHeartbeats 2000000
namespace Pd
open PySem PySem.Spec L2
def St (f : Nat → Int) : Prop := (0 < f 0 ∧ ∀ k, 0 ≤ f k) ∨ (f 0 < 0 ∧ ∀ k, f k ≤ 0)
def absS : List Int → Nat
  | [] => 0
  | a :: as => a.natAbs + absS as
theorem shc_big {h : Int} : ∀ (xs : List Int), xs ≠ [] → 0 < co xs (xs.length - 1) → (absS xs : Int) < h → ∀ k, k < xs.length → 1 ≤ shc h xs k
  | [], z, _, _, _, _ => absurd rfl z
  | [a], _, hl, hh, k, hk => by
    have hk0 : k = 0 := by simp at hk; omega
    subst hk0
    have : 0 < a := hl
    show 1 ≤ a + h * 0
    omega
  | a :: b :: ys, _, hl, hh, k, hk => by
    have hh' : ((absS (b :: ys) : Nat) : Int) < h := by
      have : absS (a :: b :: ys) = a.natAbs + absS (b :: ys) := rfl
      omega
    have ha : (a.natAbs : Int) < h := by
      have : absS (a :: b :: ys) = a.natAbs + absS (b :: ys) := rfl
      omega
    have ih := shc_big (b :: ys) (by simp) hl hh'
    have h1 : 1 ≤ h := by omega
    cases k with
    | zero =>
      show 1 ≤ a + h * shc h (b :: ys) 0
      have := ih 0 (by simp)
      have m : h * 1 ≤ h * shc h (b :: ys) 0 := Int.mul_le_mul_of_nonneg_left this (by omega)
      omega
    | succ k =>
      show 1 ≤ shc h (b :: ys) k + h * shc h (b :: ys) (k + 1)
      have h2 := ih k (by simpa using hk)
      by_cases hk2 : k + 1 < (b :: ys).length
      · have := ih (k + 1) hk2
        have m : 0 ≤ h * shc h (b :: ys) (k + 1) := Int.mul_nonneg (by omega) (by omega)
        omega
      · rw [shc_ge h (b :: ys) (k + 1) (by omega)]; omega
theorem absS_neg : ∀ xs : List Int, absS (xs.map fun x => -x) = absS xs
  | [] => rfl
  | a :: as => by
    show (-a).natAbs + absS (as.map fun x => -x) = _
    rw [absS_neg as, Int.natAbs_neg]; rfl
theorem absS_lt {b : Nat} : ∀ {xs : List Int}, (∀ k, Sm (co xs k) b) → absS xs < 2 ^ (b + xs.length)
  | [], h => Nat.two_pow_pos _
  | a :: as, h => by
    have ih := absS_lt (xs := as) fun k => h (k + 1)
    have h0 : a.natAbs < 2 ^ b := (h 0).lt
    have e : 2 ^ (b + (a :: as).length) = 2 ^ (b + as.length) + 2 ^ (b + as.length) := by
      rw [List.length_cons, ← Nat.add_assoc, Nat.pow_succ]; omega
    have m : 2 ^ b ≤ 2 ^ (b + as.length) := Nat.pow_le_pow_right (by decide) (by omega)
    rw [e]
    show a.natAbs + absS as < _
    omega
theorem St.big {xs : List Int} {h : Int} (hl : xs ≠ []) (hz : co xs (xs.length - 1) ≠ 0) (hh : (absS xs : Int) < h) : St (shc h xs) := by
  have lp : 0 < xs.length := List.length_pos_iff.mpr hl
  rcases Int.lt_or_gt_of_ne hz with z | z
  · have e : ∀ k, shc h xs k = -shc h (xs.map fun x => -x) k := fun k => by
      have := shc_lin h xs (xs.map fun x => -x) 1 (-1) (fun k => by rw [co_map (fun x => -x) (by simp)]; omega) k
      omega
    have hb := shc_big (h := h) (xs.map fun x => -x) (by simpa using hl) (by rw [List.length_map, co_map (fun x => -x) (by simp)]; omega) (by rw [absS_neg]; exact hh)
    rw [List.length_map] at hb
    refine .inr ⟨by rw [e]; have := hb 0 lp; omega, fun k => ?_⟩
    by_cases hk : k < xs.length
    · rw [e]; have := hb k hk; omega
    · rw [shc_ge h xs k (by omega)]; omega
  · have hb := shc_big xs hl z hh
    refine .inl ⟨by have := hb 0 lp; omega, fun k => ?_⟩
    by_cases hk : k < xs.length
    · have := hb k hk; omega
    · rw [shc_ge h xs k (by omega)]; omega
end Pd
set_option maxHeartbeats 2000000
namespace Pd
open PySem PySem.Spec L2
end Pd
set_option maxHeartbeats 2000000
namespace Pd
open PySem PySem.Spec L2
theorem poly_eq {p q : Po} {n b m c : Nat} (hp : PoS p n b) (hq : PoS q m c) : q_Poly_eq p q = true ↔ pv p = pv q := by
  show (true && (decide (p.coefs = q.coefs) && decide (p.den = q.den))) = true ↔ _
  rw [Bool.true_and, Bool.and_eq_true, decide_eq_true_iff, decide_eq_true_iff]
  constructor
  · rintro ⟨h1, h2⟩
    obtain ⟨c1, d1⟩ := p
    obtain ⟨c2, d2⟩ := q
    dsimp only at h1 h2
    subst h1; subst h2; rfl
  · intro h
    have := pv_inj hp hq fun k => by rw [h]
    subst this
    exact ⟨rfl, rfl⟩
section
variable {p : Po} {n b : Nat}
end
def fc (row : List Fr) (k : Nat) : Rat := match row[k]? with
  | some x => fv x
  | none => 0
end Pd
set_option maxHeartbeats 2000000
namespace Pd
open PySem PySem.Spec L2
theorem hz_shc (x : Int) : ∀ xs : List Int, shc x xs 0 = hz x xs
  | [] => rfl
  | a :: as => by
    show a + x * shc x as 0 = a + x * hz x as
    rw [hz_shc x as]
def mkL (n : Nat) (f : Nat → Int) : List Int := (List.range n).map f
theorem mkL_len (n : Nat) (f : Nat → Int) : (mkL n f).length = n := by simp [mkL]
theorem mkL_co {n : Nat} {f : Nat → Int} (h : ∀ k, n ≤ k → f k = 0) (k : Nat) : co (mkL n f) k = f k := by
  by_cases hk : k < n
  · have := co_lt (xs := mkL n f) (k := k) (by rw [mkL_len]; exact hk)
    unfold mkL at this
    rw [List.getElem?_map, List.getElem?_range hk] at this
    exact (Option.some.inj this).symm
  · rw [co_ge (by rw [mkL_len]; omega), h k (by omega)]
theorem shc_again {s t d e : Int} {xs ys : List Int} (h : ∀ k, co ys k * d = shc s xs k * e) (k : Nat) : shc t ys k * d = shc (s + t) xs k * e := by
  have hz : ∀ k, xs.length ≤ k → shc s xs k = 0 := fun k hk => shc_ge s xs k hk
  have h1 := shc_lin t ys (mkL xs.length (shc s xs)) d e (fun k => by rw [mkL_co hz]; exact h k) k
  rw [h1, shc_shF, mkL_len, show co (mkL xs.length (shc s xs)) = shc s xs from funext (mkL_co hz), shF_comp]
def Rt (p : Po) (r : Int) : Prop := shc r p.coefs 0 = 0
theorem rt_hz {p : Po} {r : Int} : Rt p r ↔ hz r p.coefs = 0 := by unfold Rt; rw [hz_shc]
section
variable {p : Po} {n b c : Nat}
end
end Pd
set_option maxHeartbeats 2000000
namespace Pd
open PySem PySem.Spec L2
structure RtsIn (P : Int → Prop) (lo hi : Int) (xs : List Int) : Prop where
  pw : xs.Pairwise (· < ·)
  mem : ∀ r, r ∈ xs ↔ (lo ≤ r ∧ r ≤ hi ∧ P r)
theorem up_len : ∀ {xs : List Int} {lo hi : Int}, xs.Pairwise (· < ·) → (∀ x ∈ xs, lo ≤ x ∧ x ≤ hi) → lo ≤ hi + 1 → (xs.length : Int) ≤ hi + 1 - lo
  | [], lo, hi, _, _, h => by simp; omega
  | x :: xs, lo, hi, p, m, h => by
    have p' := List.pairwise_cons.mp p
    have hx := m x List.mem_cons_self
    have := up_len (xs := xs) (lo := x + 1) (hi := hi) p'.2 (fun y hy => ⟨by have := p'.1 y hy; omega, (m y (List.mem_cons_of_mem _ hy)).2⟩) (by omega)
    rw [List.length_cons]; omega
theorem RtsIn.uniq {P : Int → Prop} {lo hi : Int} {xs ys : List Int} (h : RtsIn P lo hi xs) (k : RtsIn P lo hi ys) : xs = ys := by
  have nd : ∀ {zs : List Int}, zs.Pairwise (· < ·) → zs.Nodup := fun h => h.imp fun q => Int.ne_of_lt q
  have pm : xs.Perm ys := (List.perm_ext_iff_of_nodup (nd h.pw) (nd k.pw)).mpr fun r => (h.mem r).trans (k.mem r).symm
  exact List.Perm.eq_of_pairwise (le := (· < ·)) (fun a b _ _ h1 h2 => by omega) h.pw k.pw pm
theorem RtsIn.len {P : Int → Prop} {lo hi : Int} {xs : List Int} (h : RtsIn P lo hi xs) (hl : lo ≤ hi + 1) : (xs.length : Int) ≤ hi + 1 - lo := up_len h.pw (fun x hx => ⟨((h.mem x).mp hx).1, ((h.mem x).mp hx).2.1⟩) hl
def Cov (P : Int → Prop) (hi : Int) : Int → List (Int × Int) → Prop
  | c, [] => ∀ x, c ≤ x → x ≤ hi → ¬ P x
  | c, (l, r) :: rest => c ≤ l ∧ l ≤ r ∧ r ≤ hi ∧ (∀ x, c ≤ x → x < l → ¬ P x) ∧ Cov P hi (r + 1) rest
theorem Cov.len {P : Int → Prop} {hi : Int} : ∀ {c : Int} {L : List (Int × Int)}, Cov P hi c L → c ≤ hi + 1 → (L.length : Int) ≤ hi + 1 - c
  | c, [], _, h => by simp; omega
  | c, (l, r) :: rest, ⟨h1, h2, h3, _, h5⟩, h => by
    have := Cov.len h5 (by omega)
    rw [List.length_cons]; omega
section
variable {p : Po} {n b c : Nat}
end
end Pd
set_option maxHeartbeats 2000000
namespace Pd
open PySem PySem.Spec L2
theorem hz_prod {xs ys zs : List Int} (h : lv zs = lv xs * lv ys) (x : Int) : hz x zs = hz x xs * hz x ys := by
  apply ic_eq
  rw [Rat.intCast_mul, ← hz_ev x xs, ← hz_ev x ys, ← hz_ev x zs]
  have e1 := Ps.ev_up (n := zs.length) (m := zs.length + (xs.length + ys.length)) (x : Rat) (lv_Bd (Nat.le_refl _)) (by omega)
  have e2 := Ps.ev_mul (n := xs.length) (m := ys.length) (l := zs.length + (xs.length + ys.length)) (f := lv xs) (g := lv ys) (x : Rat) (lv_Bd (Nat.le_refl _)) (lv_Bd (Nat.le_refl _)) (by omega)
  rw [← e1, h, e2]
end Pd
set_option maxHeartbeats 2000000
namespace Pd
open PySem PySem.Spec L2
end Pd
set_option maxHeartbeats 2000000
namespace Pd
open PySem PySem.Spec L2
def Pl (f : Ps Rat) : Prop := ∃ n, Ps.Bd n f
theorem Pl.zero : Pl 0 := ⟨0, Ps.Bd.zero⟩
theorem Pl.c (r : Rat) : Pl (Ps.c r) := ⟨1, Ps.Bd.c r⟩
theorem Pl.one : Pl 1 := Pl.c 1
theorem Pl.add {f g : Ps Rat} : Pl f → Pl g → Pl (f + g) := fun ⟨n, h⟩ ⟨m, k⟩ => ⟨max n m, (h.up (by omega)).add (k.up (by omega))⟩
theorem Pl.sub {f g : Ps Rat} : Pl f → Pl g → Pl (f - g) := fun ⟨n, h⟩ ⟨m, k⟩ => ⟨max n m, (h.up (by omega)).sub (k.up (by omega))⟩
theorem Pl.neg {f : Ps Rat} : Pl f → Pl (-f) := fun ⟨n, h⟩ => ⟨n, h.neg⟩
theorem Pl.mul {f g : Ps Rat} : Pl f → Pl g → Pl (f * g) := fun ⟨n, h⟩ ⟨m, k⟩ => ⟨_, h.mul k⟩
theorem Pl.lv (xs : List Int) : Pl (Pd.lv xs) := ⟨xs.length, lv_Bd (Nat.le_refl _)⟩
theorem PoS.pl {p : Po} {n b : Nat} (h : PoS p n b) : Pl (pv p) := ⟨n, pv_Bd h⟩
def Dg (n : Nat) (f : Ps Rat) : Prop := Ps.Bd (n + 1) f ∧ f.cf n ≠ 0
theorem Dg.pl {n : Nat} {f : Ps Rat} (h : Dg n f) : Pl f := ⟨n + 1, h.1⟩
theorem Dg.ne {n : Nat} {f : Ps Rat} (h : Dg n f) : f ≠ 0 := fun z => h.2 (by rw [z, Ps.zero_cf])
theorem dg_ex : ∀ {n : Nat} {f : Ps Rat}, Ps.Bd n f → f ≠ 0 → ∃ m, Dg m f
  | 0, f, h, hf => absurd h.nil hf
  | n + 1, f, h, hf => by
    by_cases z : f.cf n = 0
    · refine dg_ex (n := n) (fun k hk => ?_) hf
      by_cases e : k = n
      · rw [e, z]
      · exact h k (by omega)
    · exact ⟨n, h, z⟩
theorem Pl.dg {f : Ps Rat} (h : Pl f) (hf : f ≠ 0) : ∃ m, Dg m f := by
  obtain ⟨n, h⟩ := h
  exact dg_ex h hf
theorem Dg.uniq {n m : Nat} {f : Ps Rat} (h : Dg n f) (k : Dg m f) : n = m := by
  rcases Nat.lt_trichotomy n m with l | l | l
  · exact absurd (h.1 m (by omega)) k.2
  · exact l
  · exact absurd (k.1 n (by omega)) h.2
theorem Dg.mul {n m : Nat} {f g : Ps Rat} (h : Dg n f) (k : Dg m g) : Dg (n + m) (f * g) := ⟨by
  have := h.1.mul k.1
  exact this.up (by omega), by
  rw [Ps.mul_top h.1 k.1]
  intro z
  rcases (Rat.mul_eq_zero.mp z) with z | z
  · exact h.2 z
  · exact k.2 z⟩
theorem mul_ne {f g : Ps Rat} (hf : Pl f) (hg : Pl g) (h : f ≠ 0) (k : g ≠ 0) : f * g ≠ 0 := by
  obtain ⟨n, a⟩ := hf.dg h
  obtain ⟨m, b⟩ := hg.dg k
  exact (a.mul b).ne
theorem mul_can {f g h : Ps Rat} (hf : Pl f) (hg : Pl g) (hh : Pl h) (h0 : f ≠ 0) (e : f * g = f * h) : g = h := by
  have e2 : f * (g - h) = 0 := by grind
  by_cases z : g - h = 0
  · have : g = h + (g - h) := by grind
    rw [this, z]; grind
  · exact absurd e2 (mul_ne hf (hg.sub hh) h0 z)
def Dv (f g : Ps Rat) : Prop := ∃ h, Pl h ∧ g = f * h
theorem Dv.refl (f : Ps Rat) : Dv f f := ⟨1, Pl.one, by grind⟩
theorem Dv.zero (f : Ps Rat) : Dv f 0 := ⟨0, Pl.zero, by grind⟩
theorem Dv.trans {f g h : Ps Rat} : Dv f g → Dv g h → Dv f h := fun ⟨a, p, e⟩ ⟨b, q, e2⟩ => ⟨a * b, p.mul q, by rw [e2, e]; grind⟩
theorem Dv.add {f g h : Ps Rat} : Dv f g → Dv f h → Dv f (g + h) := fun ⟨a, p, e⟩ ⟨b, q, e2⟩ => ⟨a + b, p.add q, by rw [e2, e]; grind⟩
theorem Dv.mulr {f g h : Ps Rat} (hh : Pl h) : Dv f g → Dv f (h * g) := fun ⟨a, p, e⟩ => ⟨h * a, hh.mul p, by rw [e]; grind⟩
theorem Dv.deg {f g : Ps Rat} {n m : Nat} (h : Dv f g) (hf : Dg n f) (hg : Dg m g) : n ≤ m := by
  obtain ⟨a, p, e⟩ := h
  have ha : a ≠ 0 := fun z => hg.ne (by rw [e, z]; grind)
  obtain ⟨k, ka⟩ := p.dg ha
  have := (hf.mul ka).uniq (m := m) (by rw [← e]; exact hg)
  omega
structure Gcd (g p q : Ps Rat) : Prop where
  l : Dv g p
  r : Dv g q
  bz : ∃ u v, Pl u ∧ Pl v ∧ g = u * p + v * q
theorem Gcd.gr {g p q d : Ps Rat} (h : Gcd g p q) (a : Dv d p) (b : Dv d q) : Dv d g := by
  obtain ⟨u, v, hu, hv, e⟩ := h.bz
  rw [e]
  exact (a.mulr hu).add (b.mulr hv)
theorem Gcd.pl {g p q : Ps Rat} (h : Gcd g p q) (hp : Pl p) (hq : Pl q) : Pl g := by
  obtain ⟨u, v, hu, hv, e⟩ := h.bz
  rw [e]
  exact (hu.mul hp).add (hv.mul hq)
theorem Gcd.zero (p : Ps Rat) : Gcd p p 0 := ⟨Dv.refl p, Dv.zero p, 1, 0, Pl.one, Pl.zero, by grind⟩
theorem Gcd.symm {g p q : Ps Rat} (h : Gcd g p q) : Gcd g q p := ⟨h.r, h.l, by
  obtain ⟨u, v, hu, hv, e⟩ := h.bz
  exact ⟨v, u, hv, hu, by rw [e]; grind⟩⟩
theorem cc {r : Rat} (h : r ≠ 0) : Ps.c r * Ps.c r⁻¹ = 1 := by
  rw [← Ps.c_mulc, Rat.mul_inv_cancel r h]; rfl
theorem Gcd.cl {g p q : Ps Rat} {r : Rat} (hr : r ≠ 0) (h : Gcd g (Ps.c r * p) q) : Gcd g p q := by
  have k := cc hr
  refine ⟨?_, h.r, ?_⟩
  · obtain ⟨a, pa, e⟩ := h.l
    refine ⟨Ps.c r⁻¹ * a, (Pl.c _).mul pa, ?_⟩
    have : p = Ps.c r⁻¹ * (Ps.c r * p) := by grind
    rw [this, e]; grind
  · obtain ⟨u, v, hu, hv, e⟩ := h.bz
    exact ⟨u * Ps.c r, v, hu.mul (Pl.c _), hv, by rw [e]; grind⟩
theorem Gcd.cr {g p q : Ps Rat} {r : Rat} (hr : r ≠ 0) (h : Gcd g p (Ps.c r * q)) : Gcd g p q := (Gcd.cl hr h.symm).symm
theorem Gcd.step {g p q Q R : Ps Rat} {r : Rat} (hr : r ≠ 0) (hQ : Pl Q) (e : Ps.c r * p = Q * q + R) (h : Gcd g q R) : Gcd g p q := by
  refine Gcd.cl hr ⟨?_, h.l, ?_⟩
  · rw [e]
    exact (h.l.mulr hQ).add h.r
  · obtain ⟨u, v, hu, hv, k⟩ := h.bz
    exact ⟨v, u - v * Q, hv, hu.sub (hv.mul hQ), by rw [e, k]; grind⟩
theorem Gcd.deg {g g' p q : Ps Rat} {n m : Nat} (h : Gcd g p q) (k : Gcd g' p q) (a : Dg n g) (b : Dg m g') : n = m := by
  have h1 := (k.gr h.l h.r).deg a b
  have h2 := (h.gr k.l k.r).deg b a
  omega
theorem Gcd.nz {g p q : Ps Rat} (h : Gcd g p q) (hp : p ≠ 0) : g ≠ 0 := fun z => by
  obtain ⟨a, pa, e⟩ := h.l
  exact hp (by rw [e, z]; grind)
theorem dg0 {f : Ps Rat} (h : Dg 0 f) : f = Ps.c (f.cf 0) := Ps.ext fun k => by
  rw [Ps.c_cf]
  by_cases e : k = 0
  · rw [if_pos e, e]
  · rw [if_neg e]; exact h.1 k (by omega)
theorem Gcd.cop {g p q p' q' : Ps Rat} (h : Gcd g p q) (hg : Pl g) (h0 : g ≠ 0) (hp : Pl p') (hq : Pl q') (e : p = g * p') (k : q = g * q') : Gcd 1 p' q' := by
  refine ⟨⟨p', hp, by grind⟩, ⟨q', hq, by grind⟩, ?_⟩
  obtain ⟨u, v, hu, hv, z⟩ := h.bz
  refine ⟨u, v, hu, hv, mul_can hg Pl.one ((hu.mul hp).add (hv.mul hq)) h0 ?_⟩
  have : g * (u * p' + v * q') = u * (g * p') + v * (g * q') := by grind
  rw [this, ← e, ← k, ← z]; grind
theorem Gcd.dvd {p q f : Ps Rat} (h : Gcd 1 p q) (k : Dv p (q * f)) (hf : Pl f) : Dv p f := by
  obtain ⟨u, v, hu, hv, z⟩ := h.bz
  obtain ⟨a, pa, e⟩ := k
  refine ⟨u * f + v * a, (hu.mul hf).add (hv.mul pa), ?_⟩
  have h1 : f = 1 * f := by grind
  have h2 : f = (u * p + v * q) * f := by rw [← z]; exact h1
  have h3 : (u * p + v * q) * f = u * p * f + v * (q * f) := by grind
  rw [e] at h3
  calc f = (u * p + v * q) * f := h2
    _ = u * p * f + v * (p * a) := h3
    _ = p * (u * f + v * a) := by grind
theorem low_uniq {a b c d : Ps Rat} {n m : Nat} (h1 : Gcd 1 a b) (h2 : Gcd 1 c d) (pa : Pl a) (pc : Pl c) (hb : Dg n b) (hd : Dg m d) (mb : b.cf n = 1) (md : d.cf m = 1) (e : a * d = c * b) : a = c ∧ b = d := by
  have d1 : Dv b d := h1.symm.dvd ⟨c, pc, by rw [e]; grind⟩ hd.pl
  have d2 : Dv d b := h2.symm.dvd ⟨a, pa, by rw [← e]; grind⟩ hb.pl
  have l1 := d1.deg hb hd
  have l2 := d2.deg hd hb
  have : n = m := by omega
  subst this
  obtain ⟨k, pk, ek⟩ := d1
  have kn : k ≠ 0 := fun z => hd.ne (by rw [ek, z]; grind)
  obtain ⟨j, hj⟩ := pk.dg kn
  have hj0 : j = 0 := by
    have := (hb.mul hj).uniq (m := n) (by rw [← ek]; exact hd)
    omega
  subst hj0
  have t : (b * k).cf (n + 0) = b.cf n * k.cf 0 := Ps.mul_top hb.1 hj.1
  rw [← ek, Nat.add_zero, md, mb] at t
  have hk := dg0 hj
  have hk1 : k.cf 0 = 1 := by grind
  rw [hk1] at hk
  have ek2 : d = b := by rw [ek, hk]; show b * 1 = b; grind
  refine ⟨?_, ek2.symm⟩
  rw [ek2] at e
  exact mul_can hb.pl pa pc hb.ne (by rw [Ps.mul_comm' b a, e]; grind)
end Pd
set_option maxHeartbeats 2000000
namespace Pd
open PySem PySem.Spec L2
def Prm (p : Nat) : Prop := 1 < p ∧ ∀ d, d ∣ p → d = 1 ∨ d = p
theorem prm_ex : ∀ (n : Nat), 1 < n → ∃ p, Prm p ∧ p ∣ n := by
  intro n
  induction n using Nat.strongRecOn with
  | ind n ih =>
    intro h
    by_cases hp : Prm n
    · exact ⟨n, hp, Nat.dvd_refl n⟩
    · have : ∃ d, d ∣ n ∧ d ≠ 1 ∧ d ≠ n := Classical.byContradiction fun z => hp ⟨h, fun d hd => by
        by_cases a : d = 1
        · exact .inl a
        · by_cases b : d = n
          · exact .inr b
          · exact absurd ⟨d, hd, a, b⟩ z⟩
      obtain ⟨d, hd, h1, h2⟩ := this
      have dl := Nat.le_of_dvd (by omega) hd
      have d0 : d ≠ 0 := fun z => by rw [z] at hd; have := Nat.eq_zero_of_zero_dvd hd; omega
      obtain ⟨p, hp, hd2⟩ := ih d (by omega) (by omega)
      exact ⟨p, hp, Nat.dvd_trans hd2 hd⟩
theorem Prm.dvd {p : Nat} (hp : Prm p) {a b : Int} (h : (p : Int) ∣ a * b) : (p : Int) ∣ a ∨ (p : Int) ∣ b := by
  rw [Int.ofNat_dvd_left, Int.natAbs_mul] at h
  rw [Int.ofNat_dvd_left, Int.ofNat_dvd_left]
  rcases hp.2 _ (Nat.gcd_dvd_left p a.natAbs) with g | g
  · exact .inr (Nat.Coprime.dvd_of_dvd_mul_left g h)
  · have := Nat.gcd_dvd_right p a.natAbs
    rw [g] at this
    exact .inl this
theorem dvd_back {p a b : Int} (h : p ∣ a + b) (k : p ∣ a) : p ∣ b := by
  have e : b = (a + b) - a := by omega
  rw [e]; exact Int.dvd_sub h k
theorem gauss {p : Nat} (hp : Prm p) : ∀ (N n m : Nat) (f g : Ps Int), n + m ≤ N → Ps.Bd n f → Ps.Bd m g → (∀ k, (p : Int) ∣ (f * g).cf k) → (∀ k, (p : Int) ∣ f.cf k) ∨ (∀ k, (p : Int) ∣ g.cf k)
  | N, 0, m, f, g, _, hf, _, _ => .inl fun k => by rw [hf k (Nat.zero_le _)]; exact Int.dvd_zero _
  | N, n + 1, 0, f, g, _, _, hg, _ => .inr fun k => by rw [hg k (Nat.zero_le _)]; exact Int.dvd_zero _
  | 0, n + 1, m + 1, f, g, l, _, _, _ => by omega
  | N + 1, n + 1, m + 1, f, g, l, hf, hg, H => by
    have e1 : f * g = Ps.c (f.cf 0) * g + Ps.X * (Ps.shp f * g) := by
      conv => lhs; rw [Ps.split f]
      grind
    have e2 : f * g = Ps.c (g.cf 0) * f + Ps.X * (f * Ps.shp g) := by
      conv => lhs; rw [Ps.split g]
      grind
    have h0 : (f * g).cf 0 = f.cf 0 * g.cf 0 := rfl
    have all : ∀ {h : Ps Int}, (p : Int) ∣ h.cf 0 → (∀ k, (p : Int) ∣ (Ps.shp h).cf k) → ∀ k, (p : Int) ∣ h.cf k := fun {h} a b k => by
      cases k with
      | zero => exact a
      | succ k => exact b k
    have H0 := H 0
    rw [h0] at H0
    rcases hp.dvd H0 with a | a
    · have : ∀ k, (p : Int) ∣ (Ps.shp f * g).cf k := fun k => by
        have h := H (k + 1)
        rw [e1, Ps.add_cf, Ps.c_mul, Ps.X_succ] at h
        exact dvd_back h (Int.dvd_trans a (Int.dvd_mul_right _ _))
      rcases gauss hp N n (m + 1) (Ps.shp f) g (by omega) hf.shp hg this with q | q
      · exact .inl (all a q)
      · exact .inr q
    · have : ∀ k, (p : Int) ∣ (f * Ps.shp g).cf k := fun k => by
        have h := H (k + 1)
        rw [e2, Ps.add_cf, Ps.c_mul, Ps.X_succ] at h
        exact dvd_back h (Int.dvd_trans a (Int.dvd_mul_right _ _))
      rcases gauss hp N (n + 1) m f (Ps.shp g) (by omega) hf hg.shp this with q | q
      · exact .inl q
      · exact .inr (all a q)
theorem cv_cast (k : Nat) : ∀ (f g : Nat → Int), ((Ps.cv f g k : Int) : Rat) = Ps.cv (fun i => (f i : Rat)) (fun i => (g i : Rat)) k := by
  induction k with
  | zero => intro f g; show ((f 0 * g 0 : Int) : Rat) = _; rw [Rat.intCast_mul]; rfl
  | succ k ih =>
    intro f g
    show ((f 0 * g (k + 1) + Ps.cv (Ps.sh f) g k : Int) : Rat) = _
    rw [Rat.intCast_add, Rat.intCast_mul, ih]; rfl
def lz (xs : List Int) : Ps Int := ⟨co xs⟩
theorem lz_Bd (xs : List Int) : Ps.Bd xs.length (lz xs) := fun k hk => co_ge hk
theorem lz_prod {xs ys zs : List Int} (h : lv zs = lv xs * lv ys) (k : Nat) : (lz xs * lz ys).cf k = co zs k := ic_eq (by
  have e := congrArg (fun f => f.cf k) h
  show ((Ps.cv (co xs) (co ys) k : Int) : Rat) = _
  rw [cv_cast]
  exact e.symm)
theorem gaussL {p : Nat} (hp : Prm p) {xs ys zs : List Int} (h : lv zs = lv xs * lv ys) (H : ∀ k, (p : Int) ∣ co zs k) : (∀ k, (p : Int) ∣ co xs k) ∨ (∀ k, (p : Int) ∣ co ys k) :=
  gauss hp _ _ _ (lz xs) (lz ys) (Nat.le_refl _) (lz_Bd xs) (lz_Bd ys) fun k => by rw [lz_prod h]; exact H k
theorem lv_div {p : Nat} (hp : 0 < p) {ys : List Int} (H : ∀ k, (p : Int) ∣ co ys k) : lv ys = ci p * lv (ys.map fun y => y / (p : Int)) := Ps.ext fun k => by
  rw [Ps.c_mul, lv_cf, lv_cf, co_map (fun y => y / (p : Int)) (by simp), ← Rat.intCast_mul]
  congr 1
  exact (Int.mul_ediv_cancel' (H k)).symm
theorem mem_co {ys : List Int} {P : Int → Prop} (H : ∀ k, P (co ys k)) : ∀ y ∈ ys, P y := fun y hy => by
  obtain ⟨i, hi⟩ := List.getElem?_of_mem hy
  have := co_lt (List.getElem?_eq_some_iff.mp hi).1
  rw [hi] at this
  rw [Option.some.inj this]; exact H i
theorem prim_dvd0 {N G : List Int} (hG : cont G = 1) : ∀ (c : Nat) (ys : List Int), 0 < c → ci c * lv N = lv G * lv ys → ∃ zs, lv N = lv G * lv zs := by
  intro c
  induction c using Nat.strongRecOn with
  | ind c ih =>
    intro ys hc e
    by_cases c1 : c = 1
    · subst c1
      refine ⟨ys, ?_⟩
      rw [← e]
      show _ = (1 : Ps Rat) * lv N
      grind
    · obtain ⟨p, hp, d, hd⟩ := prm_ex c (by omega)
      have pp : 0 < p := by have := hp.1; omega
      have d0 : 0 < d := Nat.pos_of_ne_zero fun z => by rw [z] at hd; omega
      have e2 : lv (N.map fun x => (c : Int) * x) = lv G * lv ys := by rw [lv_map, e]
      rcases gaussL hp e2 fun k => by
        rw [co_map (fun x => (c : Int) * x) (by simp), hd, Int.natCast_mul]
        exact Int.dvd_trans (Int.dvd_mul_right _ _) (Int.dvd_mul_right _ _) with q | q
      · have := dvd_cont (m := p) (mem_co q)
        rw [hG] at this
        have := Nat.le_of_dvd (by omega) this
        have := hp.1
        omega
      · refine ih d (by have := (Nat.mul_lt_mul_right d0).mpr hp.1; omega) (ys.map fun y => y / (p : Int)) d0 (mul_can (f := ci p) (Pl.c _) ((Pl.c _).mul (Pl.lv _)) ((Pl.lv _).mul (Pl.lv _)) (fun z => ?_) ?_)
        · exact (ic_ne (d := (p : Int)) (by omega)) (by
            have := congrArg (fun f => f.cf 0) z
            rw [Ps.zero_cf] at this
            exact this)
        · have h1 : ci p * (ci d * lv N) = ci c * lv N := by
            rw [hd, Int.natCast_mul, ci_mul]; grind
          rw [h1, e, lv_div pp q]; grind
theorem clear_den : ∀ (n : Nat) (H : Ps Rat), Ps.Bd n H → ∃ (c : Nat) (ys : List Int), 0 < c ∧ ci c * H = lv ys
  | 0, H, h => ⟨1, [], by decide, by rw [h.nil, lv_nil]; grind⟩
  | n + 1, H, h => by
    obtain ⟨c, ys, hc, e⟩ := clear_den n (Ps.shp H) h.shp
    refine ⟨c * (H.cf 0).den, ((H.cf 0).num * c) :: ys.map (fun y => ((H.cf 0).den : Int) * y), Nat.mul_pos hc (H.cf 0).den_pos, ?_⟩
    rw [lv_cons, lv_map, ← e]
    have sp : ci ((c * (H.cf 0).den : Nat) : Int) * H = ci ((c * (H.cf 0).den : Nat) : Int) * (Ps.c (H.cf 0) + Ps.X * Ps.shp H) := by rw [← Ps.split H]
    have lc : Ps.c ((((H.cf 0).num * (c : Int) : Int)) : Rat) = ci (H.cf 0).num * ci c := ci_mul _ _
    rw [sp, Int.natCast_mul, ci_mul, lc]
    have hq : ci ((H.cf 0).den : Int) * Ps.c (H.cf 0) = ci (H.cf 0).num := by
      show Ps.c _ * Ps.c _ = Ps.c _
      rw [← Ps.c_mulc]
      congr 1
      have e1 : ((H.cf 0).num : Rat) / (((H.cf 0).den : Int) : Rat) = H.cf 0 := by rw [← Rat.divInt_eq_div, Rat.num_divInt_den]
      have e2 : (((H.cf 0).den : Int) : Rat) ≠ 0 := ic_ne (by have := (H.cf 0).den_pos; omega)
      generalize (((H.cf 0).den : Int) : Rat) = u at *
      generalize ((H.cf 0).num : Rat) = w at *
      rw [← e1]; grind
    have : ci c * ci ((H.cf 0).den : Int) * (Ps.c (H.cf 0) + Ps.X * Ps.shp H) = ci c * (ci ((H.cf 0).den : Int) * Ps.c (H.cf 0)) + Ps.X * (ci ((H.cf 0).den : Int) * (ci c * Ps.shp H)) := by grind
    rw [this, hq]; grind
theorem prim_dvd {N G : List Int} {H : Ps Rat} (hG : cont G = 1) (hH : Pl H) (e : lv N = lv G * H) : ∃ zs, lv N = lv G * lv zs := by
  obtain ⟨n, hn⟩ := hH
  obtain ⟨c, ys, hc, k⟩ := clear_den n H hn
  refine prim_dvd0 hG c ys hc ?_
  rw [e, ← k]; grind
def ladd : List Int → List Int → List Int
  | [], ys => ys
  | x :: xs, [] => x :: xs
  | x :: xs, y :: ys => (x + y) :: ladd xs ys
theorem ladd_co : ∀ (xs ys : List Int) (k : Nat), co (ladd xs ys) k = co xs k + co ys k
  | [], ys, k => by show co ys k = co [] k + _; rw [co_nil]; omega
  | x :: xs, [], k => by show co (x :: xs) k = _ + co [] k; rw [co_nil]; omega
  | x :: xs, y :: ys, 0 => rfl
  | x :: xs, y :: ys, k + 1 => ladd_co xs ys k
theorem ladd_len : ∀ (xs ys : List Int), ys.length ≤ xs.length → (ladd xs ys).length = xs.length
  | [], [], _ => rfl
  | [], y :: ys, h => by simp at h
  | x :: xs, [], _ => rfl
  | x :: xs, y :: ys, h => by
    show (ladd xs ys).length + 1 = xs.length + 1
    rw [ladd_len xs ys (by simpa using h)]
theorem ladd_hz (x : Int) : ∀ (xs ys : List Int), hz x (ladd xs ys) = hz x xs + hz x ys
  | [], ys => by show hz x ys = 0 + _; omega
  | a :: xs, [] => by show hz x (a :: xs) = _ + 0; omega
  | a :: xs, b :: ys => by
    show (a + b) + x * hz x (ladd xs ys) = (a + x * hz x xs) + (b + x * hz x ys)
    rw [ladd_hz x xs ys]; grind
theorem hz_map (x M : Int) : ∀ ys : List Int, hz x (ys.map fun y => M * y) = M * hz x ys
  | [] => by show (0 : Int) = M * 0; omega
  | y :: ys => by
    show M * y + x * hz x (ys.map fun y => M * y) = M * (y + x * hz x ys)
    rw [hz_map x M ys]; grind
def sdv (M : Int) : List Int → List Int
  | [] => []
  | a :: as => ladd as ((sdv M as).map fun y => M * y)
theorem sdv_len (M : Int) : ∀ xs : List Int, (sdv M xs).length = xs.length - 1
  | [] => rfl
  | a :: as => by
    show (ladd as ((sdv M as).map fun y => M * y)).length = as.length + 1 - 1
    rw [ladd_len _ _ (by rw [List.length_map, sdv_len M as]; omega)]; omega
theorem sdv_hz (M x : Int) : ∀ xs : List Int, hz x xs - hz M xs = (x - M) * hz x (sdv M xs)
  | [] => by show (0 : Int) - 0 = (x - M) * 0; omega
  | a :: as => by
    show (a + x * hz x as) - (a + M * hz M as) = (x - M) * hz x (ladd as ((sdv M as).map fun y => M * y))
    have ih := sdv_hz M x as
    rw [ladd_hz, hz_map]
    have : (x - M) * (hz x as + M * hz x (sdv M as)) = (x - M) * hz x as + M * ((x - M) * hz x (sdv M as)) := by grind
    rw [this, ← ih]; grind
theorem sdv_co (M : Int) : ∀ (xs : List Int) (k : Nat), co xs k = (match k with | 0 => hz M xs | j + 1 => co (sdv M xs) j) - M * co (sdv M xs) k
  | [], k => by
    have h : co (sdv M ([] : List Int)) k = 0 := co_nil k
    rw [h, co_nil]
    cases k with
    | zero => show (0 : Int) = 0 - M * 0; omega
    | succ k => show (0 : Int) = co [] k - M * 0; rw [co_nil]; omega
  | a :: as, k => by
    have hk : ∀ k, co (sdv M (a :: as)) k = co as k + M * co (sdv M as) k := fun k => by
      show co (ladd as ((sdv M as).map fun y => M * y)) k = _
      rw [ladd_co, co_map (fun y => M * y) (by simp)]
    cases k with
    | zero =>
      have ih := sdv_co M as 0
      rw [hk]
      show a = (a + M * hz M as) - M * (co as 0 + M * co (sdv M as) 0)
      dsimp only at ih
      have : M * hz M as = M * (co as 0 + M * co (sdv M as) 0) := by rw [ih]; congr 1; omega
      omega
    | succ k =>
      have ih := sdv_co M as (k + 1)
      rw [hk]
      show co as k = co (sdv M (a :: as)) k - M * (co as (k + 1) + M * co (sdv M as) (k + 1))
      rw [hk]
      dsimp only at ih
      rw [ih]; grind
theorem val_small : ∀ (l : Nat) (xs : List Int) (M : Int) (c m : Nat), xs.length ≤ l → (∀ i : Nat, i < l → Sm (hz (M + i) xs) c) → (∀ i : Nat, i < l → Sm (M + i) m) → 0 < c → ∀ k, Sm (co xs k) (c + l * (m + 3))
  | 0, xs, M, c, m, h, _, _, hc => fun k => by
    have : xs = [] := List.length_eq_zero_iff.mp (by omega)
    rw [this, co_nil]; exact Sm.zero (by omega)
  | l + 1, xs, M, c, m, h, hv, hm, hc => fun k => by
    have h0 := hv 0 (by omega)
    have m0 := hm 0 (by omega)
    rw [show M + ((0 : Nat) : Int) = M by omega] at h0 m0
    have ih := val_small l (sdv M xs) (M + 1) (c + 1) m (by rw [sdv_len]; omega) (fun i hi => by
      have e := sdv_hz M (M + 1 + i) xs
      have hi2 := hv (i + 1) (by omega)
      rw [show M + ((i + 1 : Nat) : Int) = M + 1 + i by omega] at hi2
      have d : Sm (hz (M + 1 + i) xs - hz M xs) (c + 1) := hi2.subUp2 h0 (Nat.le_refl _) (Nat.le_refl _)
      refine d.le ?_
      rw [e, show M + 1 + (i : Int) - M = 1 + i by omega, Int.natAbs_mul]
      exact Nat.le_mul_of_pos_left _ (by omega)) (fun i hi => by
      have := hm (i + 1) (by omega)
      rwa [show M + ((i + 1 : Nat) : Int) = M + 1 + i by omega] at this) (by omega)
    have e := sdv_co M xs k
    have ex : (l + 1) * (m + 3) = l * (m + 3) + (m + 3) := Nat.succ_mul _ _
    rw [e]
    refine Sm.subUp2 (a := c + 1 + l * (m + 3)) (b := m + (c + 1 + l * (m + 3))) ?_ (m0.mulUp (ih k) (Nat.le_refl _)) (by omega) (by omega)
    cases k with
    | zero => exact h0.up (by omega)
    | succ k => exact ih k
def Eb (l b : Nat) : Nat := (b + (b + l + 4) * l) + l * (b + l + 6)
theorem prim_size {N G : List Int} {H : Ps Rat} {l b : Nat} (hN : N.length ≤ l) (hb : ∀ k, Sm (co N k) b) (h0 : N ≠ []) (hl : co N (N.length - 1) ≠ 0) (hG : G.length ≤ l) (hc : cont G = 1) (hH : Pl H) (e : lv N = lv G * H) : ∀ k, Sm (co G k) (Eb l b) := by
  obtain ⟨zs, ez⟩ := prim_dvd hc hH e
  have bp := (hb 0).pos
  have hab := absS_lt hb
  have hX : 2 ^ (b + N.length) ≤ 2 ^ (b + l) := Nat.pow_le_pow_right (by decide) (by omega)
  have hl2 : l < 2 ^ (b + l) := Nat.lt_of_lt_of_le Nat.lt_two_pow_self (Nat.pow_le_pow_right (by decide) (by omega))
  have hm : ∀ i : Nat, i < l → Sm (((2 ^ (b + l) : Nat) : Int) + i) (b + l + 3) := fun i hi => ⟨by
    have e8 : 2 ^ (b + l + 3) = 2 ^ (b + l) * 2 ^ 3 := Nat.pow_add 2 (b + l) 3
    rw [e8]
    omega, by omega⟩
  have hv : ∀ i : Nat, i < l → Sm (hz (((2 ^ (b + l) : Nat) : Int) + i) G) (b + (b + l + 4) * l) := fun i hi => by
    have s := St.big (h := ((2 ^ (b + l) : Nat) : Int) + i) h0 hl (by omega)
    have hn : hz (((2 ^ (b + l) : Nat) : Int) + i) N ≠ 0 := by
      rw [← hz_shc]
      rcases s with ⟨s, _⟩ | ⟨s, _⟩ <;> omega
    have hs := (hz_sm (hm i hi) hb).up (b := b + (b + l + 4) * l) (by have := Nat.mul_le_mul_left (b + l + 4) hN; rw [Nat.mul_comm N.length, show b + l + 3 + 1 = b + l + 4 from rfl]; omega)
    have ep := hz_prod ez (((2 ^ (b + l) : Nat) : Int) + i)
    refine hs.le ?_
    rw [ep, Int.natAbs_mul]
    refine Nat.le_mul_of_pos_right _ (Int.natAbs_pos.mpr fun z => hn ?_)
    rw [ep, z, Int.mul_zero]
  have := val_small l G _ _ _ hG hv hm (by omega)
  exact this
end Pd
set_option maxHeartbeats 2000000
namespace Pd
open PySem PySem.Spec L2
theorem co_tab (v : Nat → Int) (n k : Nat) : co ((List.range n).map v) k = if k < n then v k else 0 := by
  split
  · rename_i h
    have := co_lt (xs := (List.range n).map v) (k := k) (by simp; exact h)
    rw [List.getElem?_map, List.getElem?_range h] at this
    exact (Option.some.inj this).symm
  · exact co_ge (by simp; omega)
structure Cf (X Y f g : Ps Rat) (L l : Nat) : Prop where
  ex : ∃ z1 w1 z2 w2 : Ps Rat, ∃ c : Rat, c ≠ 0 ∧ g = z1 * X + w1 * Y ∧ f = z2 * X + w2 * Y ∧ z1 * w2 - z2 * w1 = Ps.c c ∧ Pl z1 ∧ Pl z2 ∧ Ps.Bd (L + 1 - l) w1 ∧ Ps.Bd (L + 1 - l) w2
theorem Cf.step {X Y f g Q R R' : Ps Rat} {L lf lg lr : Nat} {r : Rat} (h : Cf X Y f g L (max lf lg)) (hf : lf ≤ L) (hl : lg ≤ L) (h1 : 1 ≤ lg) (hr : lr < lg) (e : f = Q * g + R) (r0 : r ≠ 0) (e' : R' = Ps.c r * R) (bQ : Ps.Bd (lf + 1 - lg) Q) : Cf X Y g R' L (max lg lr) := by
  obtain ⟨z1, w1, z2, w2, c, c0, eg, ef, det, p1, p2, b1, b2⟩ := h.ex
  have m : max lg lr = lg := by omega
  have pQ : Pl Q := ⟨_, bQ⟩
  rw [m]
  refine ⟨Ps.c r * (z2 - Q * z1), Ps.c r * (w2 - Q * w1), z1, w1, -(r * c), ?_, ?_, eg, ?_, (Pl.c _).mul (p2.sub (pQ.mul p1)), p1, ?_, b1.up (by omega)⟩
  · intro z
    have : r * c = 0 := by grind
    rcases Rat.mul_eq_zero.mp this with q | q
    · exact r0 q
    · exact c0 q
  · have : R = f - Q * g := by rw [e]; grind
    rw [e', this, ef, eg]; grind
  · have e1 : Ps.c (-(r * c)) = -(Ps.c r * (z1 * w2 - z2 * w1)) := by
      rw [det, ← Ps.c_mulc]
      exact Ps.ext fun k => by
        rw [Ps.neg_cf, Ps.c_cf, Ps.c_cf]
        split
        · rfl
        · grind
    rw [e1]; grind
  · refine (Ps.Bd.sub (b2.up (by omega)) ?_).cmul r
    exact (bQ.mul b1).up (by omega)
def Sg (n b : Nat) : Nat := Eb n (2 * n + b + (2 * n * (b + 1 + 2 * n) + 1))
theorem trim_nz {N : List Int} (h : lv N ≠ 0) : trim N ≠ [] ∧ co (trim N) ((trim N).length - 1) ≠ 0 ∧ (trim N).length ≤ N.length := by
  have l : (trim N).length = tsz N := by
    show (N.take (tsz N)).length = _
    rw [List.length_take]; have := tsz_le N; omega
  have t0 : tsz N ≠ 0 := fun z => h (Ps.ext fun k => by rw [lv_cf, tsz_zero N k (by omega), Ps.zero_cf]; rfl)
  refine ⟨fun z => t0 (by rw [← l, z]; rfl), ?_, by rw [l]; exact tsz_le N⟩
  rw [l, co_trim]
  exact tsz_last N t0
end Pd
set_option maxHeartbeats 2000000
namespace Pd
open PySem PySem.Spec L2
section
variable {p q : Po} {n b m c : Nat}
theorem po_ne {p : Po} : p.coefs ≠ [] ↔ p.coefs.length ≠ 0 := by
  rw [Ne, ← List.length_eq_zero_iff]
theorem pv_ne (hp : PoS p n b) (h : p.coefs ≠ []) : Dg (p.coefs.length - 1) (pv p) := ⟨fun k hk => by
  show (co p.coefs k : Rat) / p.den = 0
  rw [co_ge (by have := po_ne.mp h; omega)]
  grind, fun z => by
  have h1 : (co p.coefs (p.coefs.length - 1) : Rat) / p.den = 0 := z
  have h2 := hp.ne
  have h3 := ic_ne (hp.last h)
  grind⟩
theorem pv_nil (h : p.coefs = []) : pv p = 0 := Ps.ext fun k => by
  show (co p.coefs k : Rat) / p.den = _
  rw [h, co_nil, Ps.zero_cf, show ((0 : Int) : Rat) = 0 from rfl]; grind
theorem pv_zero_iff (hp : PoS p n b) : pv p = 0 ↔ p.coefs = [] := ⟨fun h => Classical.byContradiction fun z => (pv_ne hp z).ne h, pv_nil⟩
theorem one_sm {b : Nat} (h : 0 < b) : Sm 1 b := ⟨by show 1 < 2 ^ b; exact Nat.one_lt_two_pow (by omega), h⟩
theorem den_one (h : p.den = 1) : pv p = lv p.coefs := Ps.ext fun k => by
  show (co p.coefs k : Rat) / (p.den : Rat) = co p.coefs k
  rw [h, show ((1 : Int) : Rat) = 1 from rfl]; grind
theorem prim_spec (hp : PoS p n m) (hc : ∀ k, Sm (co p.coefs k) b) (hn : n ≤ 1000000) : v_primitive p ∧ PoS (q_primitive p) n b ∧ (q_primitive p).den = 1 ∧ (q_primitive p).coefs.length = p.coefs.length ∧ (p.coefs ≠ [] → cont (q_primitive p).coefs = 1) ∧ ∃ r : Rat, r ≠ 0 ∧ pv (q_primitive p) = Ps.c r * pv p := by
  have hz := po_zero p
  have bp := (hc 0).pos
  by_cases h0 : p.coefs = []
  · have h1 : q_Poly_is_zero p = true := by rw [hz, h0]; rfl
    have E : q_primitive p = p := by
      show (if q_Poly_is_zero p = true then p else q_primitive_2 p) = p
      rw [if_pos h1]
    have d1 : p.den = 1 := by
      have := hp.cop
      have p0 := hp.pos
      rw [h0] at this
      have e : Nat.gcd (cont []) p.den.natAbs = p.den.natAbs := by show Nat.gcd 0 _ = _; exact Nat.gcd_zero_left _
      omega
    rw [E]
    exact ⟨fun z => (by rw [h1] at z; cases z), ⟨hp.pos, hp.cop, hp.last, hp.len, hc, by rw [d1]; exact one_sm bp⟩, d1, rfl, fun z => absurd h0 z, 1, by decide, by show _ = (1 : Ps Rat) * pv p; grind⟩
  · have hl0 := po_ne.mp h0
    have h1 : q_Poly_is_zero p = false := by rw [hz]; exact decide_eq_false hl0
    have hlast := hp.last h0
    have hl := hp.len
    have gpos : 0 < cont p.coefs := Nat.pos_of_ne_zero fun z => by
      have := cont_dvd (List.mem_of_getElem? (co_lt (xs := p.coefs) (k := p.coefs.length - 1) (by omega)))
      rw [z] at this
      exact hlast (Int.zero_dvd.mp (by simpa using this))
    have hd : ((cont p.coefs : Nat) : Int) ≠ 0 := by omega
    have ec : q_content_x2 p.coefs = (cont p.coefs : Int) := by
      show p.coefs.foldl (fun (s1 : Int) (x2 : Int) => (Int.gcd s1 x2 : Int)) 0 = _
      exact foldl_int p.coefs 0
    have E : q_primitive p = q_Poly_init p.coefs (cont p.coefs : Int) := by
      show (if q_Poly_is_zero p = true then p else q_Poly_init_x2 p.coefs (q_content_x2 p.coefs)) = _
      rw [if_neg (by rw [h1]; decide), ec]; rfl
    obtain ⟨v, eI⟩ := polyInit_spec (xs := p.coefs) hd (by omega)
    have tr : trim p.coefs = p.coefs := by unfold trim; rw [hp.tsz, List.take_length]
    have eS : plS p.coefs (cont p.coefs : Int) = (cont p.coefs : Int) := by
      unfold plS
      rw [if_neg (by omega), tr, Int.natAbs_natCast, Nat.gcd_self]
    have eD : plD p.coefs (cont p.coefs : Int) = 1 := by
      have := plD_mul (xs := p.coefs) hd
      rw [eS] at this
      have h2 : (plD p.coefs (cont p.coefs : Int) - 1) * (cont p.coefs : Int) = 0 := by rw [Int.sub_mul, this]; omega
      have := (Int.mul_eq_zero.mp h2).resolve_right hd
      omega
    have eC : cont (plC p.coefs (cont p.coefs : Int)) = 1 := by
      have h2 : (plC p.coefs (cont p.coefs : Int)).map (· * plS p.coefs (cont p.coefs : Int)) = trim p.coefs := by
        unfold plC
        rw [List.map_map]
        conv => rhs; rw [← List.map_id (trim p.coefs)]
        refine List.map_congr_left fun x hx => ?_
        exact fdiv_mul_of_dvd (plS_ne hd) (plS_dvd hx)
      have h3 := cont_mul (plC p.coefs (cont p.coefs : Int)) (plS p.coefs (cont p.coefs : Int))
      rw [h2, tr, eS, Int.natAbs_natCast] at h3
      exact Nat.eq_of_mul_eq_mul_right gpos (by omega)
    have len : (plC p.coefs (cont p.coefs : Int)).length = p.coefs.length := by rw [plC_len, hp.tsz]
    rw [E, eI]
    refine ⟨fun _ => ?_, ⟨plD_pos hd, pl_gcd hd, plC_last hd, by show (plC p.coefs _).length ≤ n; omega, fun k => (hc k).le (plC_small hd k), by show Sm (plD p.coefs _) b; rw [eD]; exact one_sm bp⟩, eD, len, fun _ => eC, (p.den : Rat) / ((cont p.coefs : Nat) : Int), ?_, Ps.ext fun k => ?_⟩
    · show v_Poly_init_x2 p.coefs (q_content_x2 p.coefs)
      rw [ec]; exact v
    · have h2 := hp.ne
      have h3 := ic_ne hd
      intro z
      grind
    · rw [Ps.c_mul]
      show (co (plC p.coefs (cont p.coefs : Int)) k : Rat) / (plD p.coefs (cont p.coefs : Int) : Rat) = _ * ((co p.coefs k : Rat) / p.den)
      have h2 := hp.ne
      have h3 := ic_ne hd
      have e1 := (rat_div_eq (a := co (plC p.coefs (cont p.coefs : Int)) k) (b := plD p.coefs (cont p.coefs : Int)) (c := co p.coefs k) (by rw [eD]; decide) hd).mpr (pl_cross hd k)
      rw [e1]; grind
theorem Cf.init {X Y f g : Ps Rat} {L l : Nat} {r s : Rat} (r0 : r ≠ 0) (s0 : s ≠ 0) (hl : l = L) (ef : f = Ps.c r * X) (eg : g = Ps.c s * Y) : Cf X Y f g L l ∧ Cf X Y g f L l := by
  have bd : Ps.Bd (L + 1 - l) (Ps.c s) := (Ps.Bd.c s).up (by omega)
  have bz : Ps.Bd (L + 1 - l) (0 : Ps Rat) := Ps.Bd.zero.up (Nat.zero_le _)
  have m0 : r * s ≠ 0 := fun z => by
    rcases Rat.mul_eq_zero.mp z with q | q
    · exact r0 q
    · exact s0 q
  refine ⟨⟨0, Ps.c s, Ps.c r, 0, -(r * s), fun z => m0 (by grind), by rw [eg]; grind, by rw [ef]; grind, ?_, Pl.zero, Pl.c _, bd, bz⟩, ⟨Ps.c r, 0, 0, Ps.c s, r * s, m0, by rw [ef]; grind, by rw [eg]; grind, ?_, Pl.c _, Pl.zero, bz, bd⟩⟩
  · have : Ps.c (-(r * s)) = -(Ps.c r * Ps.c s) := by
      rw [← Ps.c_mulc]
      exact Ps.ext fun k => by
        rw [Ps.neg_cf, Ps.c_cf, Ps.c_cf]
        split
        · rfl
        · grind
    rw [this]; grind
  · rw [Ps.c_mulc]; grind
end
end Pd
set_option maxHeartbeats 2000000
namespace Pd
open PySem PySem.Spec L2
structure QtS (x : Qt) (n b : Nat) : Prop where
  num : PoS x.num n b
  den : PoS x.den n b
  cop : Gcd 1 (pv x.num) (pv x.den)
  nz : x.den.coefs ≠ []
  mon : (pv x.den).cf (x.den.coefs.length - 1) = 1
theorem QtS.up {x : Qt} {n b m c : Nat} (h : QtS x n b) (l : n ≤ m) (k : b ≤ c) : QtS x m c := ⟨h.num.up l k, h.den.up l k, h.cop, h.nz, h.mon⟩
theorem QtS.dg {x : Qt} {n b : Nat} (h : QtS x n b) : Dg (x.den.coefs.length - 1) (pv x.den) := pv_ne h.den h.nz
theorem QtS.ne {x : Qt} {n b : Nat} (h : QtS x n b) : pv x.den ≠ 0 := h.dg.ne
theorem QtS.uniq {x y : Qt} {n b m c : Nat} (h : QtS x n b) (k : QtS y m c) (e : pv x.num * pv y.den = pv y.num * pv x.den) : x = y := by
  obtain ⟨e1, e2⟩ := low_uniq h.cop k.cop h.num.pl k.num.pl h.dg k.dg h.mon k.mon e
  have a := pv_inj h.num k.num fun j => by rw [e1]
  have b := pv_inj h.den k.den fun j => by rw [e2]
  obtain ⟨x1, x2⟩ := x
  obtain ⟨y1, y2⟩ := y
  dsimp only at a b
  rw [a, b]
section
variable {p q : Po} {n b m c : Nat}
theorem po_can {G : List Int} {u w : Int} {e f B : Nat} (hp : PoS p m B) (hG : ∀ k, Sm (co G k) e) (hl : G.length ≤ n) (hn : n ≤ 1000000) (hw : w ≠ 0) (hu : Sm u f) (hw2 : Sm w (e + f)) (h : ∀ k, (pv p).cf k = (co G k : Rat) * u / w) : PoS p n (e + f) := by
  have cc : ∀ k, co (G.map fun x => x * u) k = co G k * u := fun k => co_map (fun x => x * u) (by simp) _ k
  obtain ⟨v, s, ev⟩ := poly_mk (xs := G.map fun x => x * u) (d := w) (n := n) (b := e + f) hw (by rw [List.length_map]; exact hl) (by omega) (fun k => by rw [cc]; exact (hG k).mulUp hu (Nat.le_refl _)) hw2
  have : p = q_Poly_init (G.map fun x => x * u) w := pv_inj hp s fun k => by
    rw [h k, ev k, cc, Rat.intCast_mul]
  rw [this]; exact s
theorem c_ne {r : Rat} (h : r ≠ 0) : Ps.c r ≠ 0 := fun z => h (by
  have := congrArg (fun f => f.cf 0) z
  rw [Ps.zero_cf] at this
  exact this)
theorem inv_ne {r : Rat} (h : r ≠ 0) : r⁻¹ ≠ 0 := fun z => by
  have := Rat.mul_inv_cancel r h
  rw [z, Rat.mul_zero] at this
  exact absurd this (by decide)
theorem qt_size {x : Qt} {N D : Po} {B : Nat} (hx : QtS x n B) (hN : PoS N n b) (hD : PoS D n b) (h0 : D.coefs ≠ []) (e : pv x.num * pv D = pv N * pv x.den) (hn : n ≤ 1000000) : QtS x n (Eb n b + 2 * b) := by
  have bp := (hD.c 0).pos
  have dD := pv_ne hD h0
  have dd := hx.dg
  have size : ∀ {y M : Po}, PoS y n B → y.coefs ≠ [] → PoS M n b → M.coefs ≠ [] → Dv (pv y) (pv M) → ∃ G : List Int, G.length ≤ n ∧ (∀ k, Sm (co G k) (Eb n b)) ∧ ∃ r : Rat, r ≠ 0 ∧ ∀ k, (co G k : Rat) = r * (pv y).cf k := fun {y M} hy hy0 hM hM0 ⟨a, pa, ea⟩ => by
    obtain ⟨_, sP, dP, lP, cP, r, r0, er⟩ := prim_spec hy hy.c hn
    have lf := den_one dP
    refine ⟨(q_primitive y).coefs, sP.len, prim_size (N := M.coefs) (H := ci M.den * (Ps.c r⁻¹ * a)) hM.len hM.c hM0 (hM.last hM0) sP.len (cP hy0) ((Pl.c _).mul ((Pl.c _).mul pa)) ?_, r, r0, fun k => ?_⟩
    · have k := cc r0
      rw [pv_lv hM, ea, ← lf, er]
      have : Ps.c r * pv y * (ci M.den * (Ps.c r⁻¹ * a)) = (Ps.c r * Ps.c r⁻¹) * (ci M.den * (pv y * a)) := by grind
      rw [this, k]; grind
    · have h1 : (lv (q_primitive y).coefs).cf k = (Ps.c r * pv y).cf k := by rw [← lf, er]
      rw [lv_cf, Ps.c_mul] at h1
      exact h1
  have eb : 0 < Eb n b := by unfold Eb; omega
  -- the denominator
  have dvD : Dv (pv x.den) (pv D) := hx.cop.symm.dvd ⟨pv N, hN.pl, by rw [e]; grind⟩ hD.pl
  obtain ⟨G, lG, sG, r, r0, eG⟩ := size hx.den hx.nz hD h0 dvD
  have tG : (co G (x.den.coefs.length - 1) : Rat) = r := by rw [eG, hx.mon]; grind
  have tG0 : co G (x.den.coefs.length - 1) ≠ 0 := fun z => r0 (by rw [← tG, z]; rfl)
  have sden : PoS x.den n (Eb n b + 2 * b) := po_can (u := 1) (w := co G (x.den.coefs.length - 1)) hx.den sG lG hn tG0 (one_sm (by omega)) ((sG _).up (by omega)) fun k => by
    rw [eG, tG, show ((1 : Int) : Rat) = 1 from rfl]; grind
  refine ⟨?_, sden, hx.cop, hx.nz, hx.mon⟩
  by_cases hn0 : x.num.coefs = []
  · refine po_can (G := []) (u := 1) (w := 1) hx.num (fun k => by rw [co_nil]; exact Sm.zero eb) (by simp) hn (by decide) (one_sm (by omega)) (one_sm (by omega)) fun k => ?_
    rw [pv_nil hn0, Ps.zero_cf, co_nil, show ((0 : Int) : Rat) = 0 from rfl]; grind
  · have dn := pv_ne hx.num hn0
    have hN0 : N.coefs ≠ [] := fun z => (dn.mul dD).ne (by rw [e, pv_nil z]; grind)
    have dN := pv_ne hN hN0
    have dvN : Dv (pv x.num) (pv N) := hx.cop.dvd ⟨pv D, hD.pl, by rw [e]; grind⟩ hN.pl
    obtain ⟨P, lP, sP, s, s0, eP⟩ := size hx.num hn0 hN hN0 dvN
    have a1 := dn.mul dD
    have a2 := dN.mul dd
    rw [← e] at a2
    have deg := a1.uniq a2
    have top1 := Ps.mul_top dn.1 dD.1
    have top2 := Ps.mul_top dN.1 dd.1
    rw [← e, ← deg, top1, hx.mon] at top2
    have cN : (pv N).cf (N.coefs.length - 1) = (co N.coefs (N.coefs.length - 1) : Rat) / N.den := rfl
    have cD : (pv D).cf (D.coefs.length - 1) = (co D.coefs (D.coefs.length - 1) : Rat) / D.den := rfl
    have tP := eP (x.num.coefs.length - 1)
    have tP0 : co P (x.num.coefs.length - 1) ≠ 0 := fun z => by
      rw [z] at tP
      have : s * (pv x.num).cf (x.num.coefs.length - 1) = 0 := tP.symm
      rcases Rat.mul_eq_zero.mp this with q | q
      · exact s0 q
      · exact dn.2 q
    have lN0 := hN.last hN0
    have lD0 := hD.last h0
    refine po_can (G := P) (u := co N.coefs (N.coefs.length - 1) * D.den) (w := co P (x.num.coefs.length - 1) * (N.den * co D.coefs (D.coefs.length - 1))) hx.num sP lP hn (Int.mul_ne_zero tP0 (Int.mul_ne_zero hN.ne' lD0)) ((hN.c _).mulUp hD.d (by omega)) ((sP _).mulUp (hN.d.mulUp (hD.c _) (Nat.le_refl _)) (by omega)) fun k => ?_
    have h1 := hN.ne
    have h2 := hD.ne
    have h3 := ic_ne lN0
    have h4 := ic_ne lD0
    have h5 := ic_ne tP0
    have l0 := dn.2
    rw [cN, cD] at top2
    rw [eP k, Rat.intCast_mul, Rat.intCast_mul, Rat.intCast_mul]
    generalize (co P (x.num.coefs.length - 1) : Rat) = t at *
    generalize (pv x.num).cf (x.num.coefs.length - 1) = l at *
    generalize (pv x.num).cf k = z at *
    generalize (co N.coefs (N.coefs.length - 1) : Rat) = u1 at *
    generalize (co D.coefs (D.coefs.length - 1) : Rat) = u2 at *
    generalize (N.den : Rat) = u3 at *
    generalize (D.den : Rat) = u4 at *
    subst tP
    have e3 : u1 * u4 = l * u2 * u3 := by
      have : l * (u2 / u4) = u1 / u3 := by rw [top2]; grind
      grind
    grind
end
end Pd
set_option maxHeartbeats 2000000
namespace Pd
open PySem PySem.Spec L2
def Tr (xs : List Int) : Prop := xs ≠ [] → co xs (xs.length - 1) ≠ 0
theorem len_ne {xs : List Int} : xs ≠ [] ↔ 0 < xs.length := List.length_pos_iff.symm
theorem Tr.dg {xs : List Int} (h : Tr xs) (h0 : xs ≠ []) : Dg (xs.length - 1) (lv xs) := ⟨fun k hk => by
  have := len_ne.mp h0
  rw [lv_cf, co_ge (by omega)]; rfl, fun z => h h0 (ic_eq (by rw [← lv_cf, z]; rfl))⟩
theorem trim_tr (xs : List Int) : Tr (trim xs) := fun h => by
  have hl := len_ne.mp h
  rw [co_trim, trim_len]
  rw [trim_len] at hl
  exact tsz_last xs (by omega)
theorem trim_lv (xs : List Int) : lv (trim xs) = lv xs := Ps.ext fun k => by rw [lv_cf, lv_cf, co_trim]
theorem trim_ls {xs : List Int} {n b : Nat} (h : LS xs n b) : LS (trim xs) n b := ⟨by have := h.len; have := tsz_le xs; rw [trim_len]; omega, fun k => by rw [co_trim]; exact h.c k⟩
theorem tr_ext {xs ys : List Int} (hx : Tr xs) (hy : Tr ys) (h : ∀ k, co xs k = co ys k) : xs = ys := by
  have key : ∀ {xs ys : List Int}, Tr xs → (∀ k, co xs k = co ys k) → xs.length ≤ ys.length := fun {xs ys} hx h => by
    by_cases z : xs.length ≤ ys.length
    · exact z
    · have n : xs ≠ [] := fun e => z (by rw [e]; simp)
      exact absurd ((h _).trans (co_ge (by omega))) (hx n)
  have l1 := key hx h
  have l2 := key hy fun k => (h k).symm
  exact co_ext (by omega) h
section
variable {p q : List Int} {n b m c : Nat}
theorem Gcd.lz {g : Ps Rat} {xs : List Int} {r : Int} {f q : Ps Rat} (hr : r ≠ 0) (e : f = ci r * lv xs) (h : Gcd g (lv xs) q) : Gcd g f q := by
  rw [e]
  refine Gcd.cl (inv_ne (ic_ne hr)) ?_
  have k := cc (ic_ne hr)
  have : Ps.c (r : Rat)⁻¹ * (ci r * lv xs) = (Ps.c (r : Rat) * Ps.c (r : Rat)⁻¹) * lv xs := by grind
  rw [this, k]
  have : (1 : Ps Rat) * lv xs = lv xs := by grind
  rw [this]; exact h
end
end Pd
set_option maxHeartbeats 2000000
namespace Pd
open PySem PySem.Spec L2
section
variable {A B C D : List Int} {n b : Nat}
end
structure Qk (n b : Nat) : Prop where
  len : n ≤ 1000
  w : (n + 3) * (Sg n b + 1) ≤ 30000000
  e : b + (n + 1) * (2 * Eb n b + 2) + 1 + b + (2 * Eb n b + 1) ≤ 10000000
theorem Qk.b {n b : Nat} (h : Qk n b) : b ≤ 10000000 := by have := h.e; omega
section
variable {x y : Qt} {n b : Nat}
end
theorem qeq_spec {x y : Qt} {n b m c : Nat} (hx : QtS x n b) (hy : QtS y m c) : q_Quotient_eq x y = true ↔ pv x.num * pv y.den = pv y.num * pv x.den := by
  show (true && ((q_Poly_eq x.num y.num) && (q_Poly_eq x.den y.den))) = true ↔ _
  rw [Bool.true_and, Bool.and_eq_true, poly_eq hx.num hy.num, poly_eq hx.den hy.den]
  constructor
  · rintro ⟨h1, h2⟩
    rw [h1, h2]
  · intro h
    have := hx.uniq hy h
    subst this
    exact ⟨rfl, rfl⟩
end Pd
set_option maxHeartbeats 2000000
namespace Pd
open PySem PySem.Spec L2
theorem rt_count : ∀ (n : Nat) (xs rs : List Int), xs.length ≤ n → (∃ k, co xs k ≠ 0) → rs.Nodup → (∀ r ∈ rs, hz r xs = 0) → rs.length < n
  | 0, xs, rs, h, ⟨k, hk⟩, _, _ => absurd (co_ge (by omega)) hk
  | n + 1, xs, [], _, _, _, _ => by simp
  | n + 1, xs, M :: rs, h, ⟨k, hk⟩, nd, hr => by
    have hM := hr M List.mem_cons_self
    have nd' := List.nodup_cons.mp nd
    have ih := rt_count n (sdv M xs) rs (by rw [sdv_len]; omega) (Classical.byContradiction fun z => hk (by
      have zz : ∀ j, co (sdv M xs) j = 0 := fun j => Classical.byContradiction fun q => z ⟨j, q⟩
      rw [sdv_co M xs k, zz k]
      cases k with
      | zero => show hz M xs - M * 0 = 0; rw [hM]; omega
      | succ k => show co (sdv M xs) k - M * 0 = 0; rw [zz k]; omega)) nd'.2 fun r hrr => by
      have e := sdv_hz M r xs
      rw [hr r (List.mem_cons_of_mem _ hrr), hM] at e
      have ne : r - M ≠ 0 := fun z => nd'.1 (by
        have : r = M := by omega
        rw [← this]; exact hrr)
      rcases Int.mul_eq_zero.mp (show (r - M) * hz r (sdv M xs) = 0 by omega) with q | q
      · exact absurd q ne
      · exact q
    rw [List.length_cons]; omega
theorem RtsIn.count {p : Po} {n b : Nat} {lo hi : Int} {xs : List Int} (h : RtsIn (Rt p) lo hi xs) (hp : PoS p n b) (h0 : p.coefs ≠ []) : xs.length < n :=
  rt_count n p.coefs xs hp.len ⟨_, hp.last h0⟩ (h.pw.imp fun q => Int.ne_of_lt q) fun r hr => rt_hz.mp ((h.mem r).mp hr).2.2
section
variable {p : Po} {n b c : Nat}
end
end Pd
set_option maxHeartbeats 2000000
namespace Pd
open PySem PySem.Spec L2
noncomputable def pev (f : Ps Rat) (x : Rat) : Rat := open Classical in if h : Pl f then Ps.ev (Classical.choose h) f x else 0
theorem pev_eq {f : Ps Rat} {n : Nat} (h : Ps.Bd n f) (x : Rat) : pev f x = Ps.ev n f x := by
  have hp : Pl f := ⟨n, h⟩
  have e : pev f x = Ps.ev (Classical.choose hp) f x := by unfold pev; rw [dif_pos hp]
  have c := Classical.choose_spec hp
  rw [e, ← Ps.ev_up (m := max (Classical.choose hp) n) x c (by omega), Ps.ev_up (n := n) x h (by omega)]
theorem pev_add {f g : Ps Rat} (hf : Pl f) (hg : Pl g) (x : Rat) : pev (f + g) x = pev f x + pev g x := by
  obtain ⟨n, a⟩ := hf
  obtain ⟨m, b⟩ := hg
  have a' := a.up (show n ≤ max n m by omega)
  have b' := b.up (show m ≤ max n m by omega)
  rw [pev_eq a', pev_eq b', pev_eq (a'.add b'), Ps.ev_add]
theorem pev_mul {f g : Ps Rat} (hf : Pl f) (hg : Pl g) (x : Rat) : pev (f * g) x = pev f x * pev g x := by
  obtain ⟨n, a⟩ := hf
  obtain ⟨m, b⟩ := hg
  rw [pev_eq a, pev_eq b, pev_eq ((a.mul b).up (show n + m - 1 ≤ n + m by omega)), Ps.ev_mul x a b (Nat.le_refl _)]
theorem pev_c (r x : Rat) : pev (Ps.c r) x = r := by rw [pev_eq (Ps.Bd.c r)]; exact Ps.ev_c 0 r x
theorem pev_lv (xs : List Int) (k : Int) : pev (lv xs) (k : Rat) = (hz k xs : Rat) := by
  rw [pev_eq (lv_Bd (Nat.le_refl _)), hz_ev]
theorem fadd_spec {x y : Fr} {s t : Nat} (hx : FrS x s) (hy : FrS y t) (hs : s ≤ 40000000) (ht : t ≤ 40000000) : v_Fraction_add x y ∧ FrS (q_Fraction_add x y) (s + t + 1) ∧ fv (q_Fraction_add x y) = fv x + fv y := by
  have hd : x.den * y.den ≠ 0 := Int.mul_ne_zero (by have := hx.pos; omega) (by have := hy.pos; omega)
  obtain ⟨v, f, e⟩ := frac_mk (n := x.num * y.den + y.num * x.den) (d := x.den * y.den) (b := s + t + 1) hd ((hx.n.mulUp hy.d (Nat.le_refl _)).addUp2 (hy.n.mulUp hx.d (Nat.le_refl _)) (by omega) (by omega)) (hx.d.mulUp hy.d (by omega))
  refine ⟨⟨mulOk_sm hx.n hy.d (by omega), mulOk_sm hy.n hx.d (by omega), mulOk_sm hx.d hy.d (by omega), v⟩, f, ?_⟩
  show fv (q_Fraction_init (x.num * y.den + y.num * x.den) (x.den * y.den)) = _
  rw [e, Rat.intCast_add, Rat.intCast_mul, Rat.intCast_mul, Rat.intCast_mul]
  have h1 := hx.ne
  have h2 := hy.ne
  unfold fv
  grind
theorem fmul_spec {x y : Fr} {s t : Nat} (hx : FrS x s) (hy : FrS y t) (hs : s ≤ 40000000) (ht : t ≤ 40000000) : v_Fraction_mul x y ∧ FrS (q_Fraction_mul x y) (s + t) ∧ fv (q_Fraction_mul x y) = fv x * fv y := by
  have hd : x.den * y.den ≠ 0 := Int.mul_ne_zero (by have := hx.pos; omega) (by have := hy.pos; omega)
  obtain ⟨v, f, e⟩ := frac_mk (n := x.num * y.num) (d := x.den * y.den) (b := s + t) hd (hx.n.mulUp hy.n (Nat.le_refl _)) (hx.d.mulUp hy.d (Nat.le_refl _))
  refine ⟨⟨mulOk_sm hx.n hy.n (by omega), mulOk_sm hx.d hy.d (by omega), v⟩, f, ?_⟩
  show fv (q_Fraction_init (x.num * y.num) (x.den * y.den)) = _
  rw [e, Rat.intCast_mul, Rat.intCast_mul]
  have h1 := hx.ne
  have h2 := hy.ne
  unfold fv
  grind
theorem pev_zero (x : Rat) : pev 0 x = 0 := pev_c 0 x
end Pd
set_option maxHeartbeats 2000000
namespace Pd
open PySem PySem.Spec L2
def Nz (s : Int) (xs : List Int) : Prop := ∀ x : Int, s ≤ x → hz x xs ≠ 0
theorem Nz.mul {s : Int} {xs ys zs : List Int} (e : lv zs = lv xs * lv ys) (h : Nz s xs) (k : Nz s ys) : Nz s zs := fun x hx => by
  rw [hz_prod e]
  exact Int.mul_ne_zero (h x hx) (k x hx)
structure Parts (P : List KV) (s f e : Int) (N D : List Int) : Prop where
  eq : P = [KV.i s, KV.i f, KV.i e, KV.l N, KV.l D]
  hs : -4 ≤ s ∧ s ≤ 4
  hf : -6 ≤ f ∧ f ≤ 6
  hf0 : f ≠ 0
  he : 1 ≤ e ∧ e ≤ 4
  lN : LS N 7 24
  lD : LS D 7 24
  nN : Nz s N
  nD : Nz s D
  bN : Ps.Bd 5 (Pd.lv N)
  bD : Ps.Bd 5 (Pd.lv D)
  aN : absS N ≤ 1444
  aD : absS D ≤ 1444
section
variable {P : List KV} {s f e : Int} {N D : List Int}
theorem Parts.g0 (h : Parts P s f e N D) : inR P (0 : Int) ∧ gt P (0 : Int) = KV.i s := by
  rw [h.eq]
  exact ⟨inR_nat (k := 0) (by simp), rfl⟩
theorem Parts.g1 (h : Parts P s f e N D) : inR P (1 : Int) ∧ gt P (1 : Int) = KV.i f := by
  rw [h.eq]
  exact ⟨inR_nat (k := 1) (by simp), rfl⟩
theorem Parts.g2 (h : Parts P s f e N D) : inR P (2 : Int) ∧ gt P (2 : Int) = KV.i e := by
  rw [h.eq]
  exact ⟨inR_nat (k := 2) (by simp), rfl⟩
theorem Parts.g3 (h : Parts P s f e N D) : inR P (3 : Int) ∧ gt P (3 : Int) = KV.l N := by
  rw [h.eq]
  exact ⟨inR_nat (k := 3) (by simp), rfl⟩
theorem Parts.g4 (h : Parts P s f e N D) : inR P (4 : Int) ∧ gt P (4 : Int) = KV.l D := by
  rw [h.eq]
  exact ⟨inR_nat (k := 4) (by simp), rfl⟩
theorem Nz.pev {s : Int} {xs : List Int} (h : Nz s xs) {k : Int} (hk : s ≤ k) : pev (lv xs) (k : Rat) ≠ 0 := by
  rw [pev_lv]; exact ic_ne (h k hk)
theorem Nz.lv {s : Int} {xs : List Int} (h : Nz s xs) : lv xs ≠ 0 := fun z => h.pev (Int.le_refl s) (by rw [z, pev_zero])
theorem e7 : Eb 7 24 + 2 * 24 ≤ 600 := by decide +kernel
end
end Pd
set_option maxHeartbeats 2000000
namespace Pd
open PySem PySem.Spec L2
end Pd
set_option maxHeartbeats 2000000
namespace Pd
open PySem PySem.Spec L2
theorem hz_big {xs : List Int} (h0 : xs ≠ []) (hl : co xs (xs.length - 1) ≠ 0) {h : Int} (hh : (absS xs : Int) < h) : hz h xs ≠ 0 := by
  have s := St.big h0 hl hh
  rw [← hz_shc]
  rcases s with ⟨s, _⟩ | ⟨s, _⟩ <;> omega
theorem zero_of_pev {F : Ps Rat} (hF : Pl F) (z : ∀ k : Int, pev F (k : Rat) = 0) : F = 0 := Classical.byContradiction fun ne => by
  obtain ⟨n, hn⟩ := hF
  obtain ⟨c, ys, hc, e⟩ := clear_den n F hn
  have c0 : ci (c : Int) ≠ 0 := c_ne (ic_ne (by omega))
  have l0 : lv ys ≠ 0 := by rw [← e]; exact mul_ne (Pl.c _) ⟨n, hn⟩ c0 ne
  obtain ⟨n1, n2, n3⟩ := trim_nz l0
  have et : lv (trim ys) = lv ys := Ps.ext fun k => by rw [lv_cf, lv_cf, co_trim]
  refine hz_big n1 n2 (h := (absS (trim ys) : Int) + 1) (by omega) (ic_eq ?_)
  rw [← pev_lv, et, ← e, pev_mul (Pl.c _) ⟨n, hn⟩, z, Rat.mul_zero]; rfl
theorem pev_neg {f : Ps Rat} (hf : Pl f) (x : Rat) : pev (-f) x = -pev f x := by
  have h : pev (f + -f) x = pev f x + pev (-f) x := pev_add hf hf.neg x
  rw [show f + -f = 0 by grind, pev_zero] at h
  grind
theorem pev_sub {f g : Ps Rat} (hf : Pl f) (hg : Pl g) (x : Rat) : pev (f - g) x = pev f x - pev g x := by
  rw [show f - g = f + -g by grind, pev_add hf hg.neg, pev_neg hg]; grind
theorem ev_ext {F G : Ps Rat} (hF : Pl F) (hG : Pl G) (e : ∀ k : Int, pev F (k : Rat) = pev G (k : Rat)) : F = G := by
  have h := zero_of_pev (hF.sub hG) fun k => by rw [pev_sub hF hG, e]; grind
  have : F = (F - G) + G := by grind
  rw [this, h]; grind
theorem hz_shift {xs ys : List Int} {s : Int} (h : ∀ k, co ys k = shc s xs k) (x : Int) : hz x ys = hz (s + x) xs := by
  have := shc_again (s := s) (t := x) (d := 1) (e := 1) (xs := xs) (ys := ys) (fun k => by rw [h k]) 0
  rw [hz_shc, hz_shc] at this
  omega
def Shd (s : Int) (f g : Ps Rat) : Prop := ∀ k : Int, pev g (k : Rat) = pev f ((s + k : Int) : Rat)
theorem Shd.mul {s : Int} {f g f' g' : Ps Rat} (hf : Pl f) (hg : Pl g) (hf' : Pl f') (hg' : Pl g') (a : Shd s f f') (b : Shd s g g') : Shd s (f * g) (f' * g') := fun k => by rw [pev_mul hf' hg', pev_mul hf hg, a k, b k]
theorem Shd.add {s : Int} {f g f' g' : Ps Rat} (hf : Pl f) (hg : Pl g) (hf' : Pl f') (hg' : Pl g') (a : Shd s f f') (b : Shd s g g') : Shd s (f + g) (f' + g') := fun k => by rw [pev_add hf' hg', pev_add hf hg, a k, b k]
theorem Shd.c (s : Int) (r : Rat) : Shd s (Ps.c r) (Ps.c r) := fun k => by rw [pev_c, pev_c]
theorem Shd.uniq {s : Int} {f g g' : Ps Rat} (hg : Pl g) (hg' : Pl g') (a : Shd s f g) (b : Shd s f g') : g = g' := ev_ext hg hg' fun k => by rw [a k, b k]
theorem Shd.inj {s : Int} {f f' g : Ps Rat} (hf : Pl f) (hf' : Pl f') (a : Shd s f g) (b : Shd s f' g) : f = f' := ev_ext hf hf' fun k => by
  have h1 := a (k - s)
  have h2 := b (k - s)
  rw [show s + (k - s) = k by omega] at h1 h2
  rw [← h1, ← h2]
theorem Shd.ne {s : Int} {f g : Ps Rat} (hf : Pl f) (a : Shd s f g) (h : f ≠ 0) : g ≠ 0 := fun z => h (Shd.inj hf Pl.zero a (fun k => by rw [z, pev_zero, pev_zero]))
theorem shd_list {xs ys : List Int} {s : Int} (h : ∀ k, co ys k = shc s xs k) : Shd s (lv xs) (lv ys) := fun k => by rw [pev_lv, pev_lv, hz_shift h]
theorem shd_po {p : Po} {n b c : Nat} {s : Int} (hp : PoS p n b) (hs : Sm s c) (hn : n ≤ 1000) (hb : b + (c + 1) * n * n + c ≤ 90000000) : v_Poly_shifted p s ∧ PoS (q_Poly_shifted p s) n (b + (c + 1) * n) ∧ Shd s (pv p) (pv (q_Poly_shifted p s)) := by
  obtain ⟨v, s1, e⟩ := shifted_spec hp hs hn hb
  refine ⟨v, s1, ?_⟩
  have hco : ∀ k, co ((List.range p.coefs.length).map (shc s p.coefs)) k = shc s p.coefs k := fun k => by
    rw [co_tab]
    split
    · rfl
    · rw [shc_ge s _ _ (by omega)]
  have h1 : Shd s (lv p.coefs) (lv ((List.range p.coefs.length).map (shc s p.coefs))) := shd_list hco
  have e2 : lv ((List.range p.coefs.length).map (shc s p.coefs)) = ci p.den * pv (q_Poly_shifted p s) := Ps.ext fun k => by
    rw [lv_cf, hco, Ps.c_mul, e k]
    have := hp.ne
    grind
  rw [e2, pv_lv hp] at h1
  intro k
  have h2 := h1 k
  rw [pev_mul (Pl.c _) s1.pl, pev_mul (Pl.c _) hp.pl, pev_c, pev_c] at h2
  have := hp.ne
  generalize pev (pv (q_Poly_shifted p s)) (k : Rat) = u at *
  generalize pev (pv p) ((s + k : Int) : Rat) = w at *
  grind
theorem PoS.tight {p : Po} {n b m : Nat} (h : PoS p n b) (l : Ps.Bd m (pv p)) : PoS p m b := ⟨h.pos, h.cop, h.last, pv_len h l, h.c, h.d⟩
end Pd
set_option maxHeartbeats 2000000
namespace Pd
open PySem PySem.Spec L2
theorem cell_spec {ns : List Int} {B : Nat} (hb : ∀ z ∈ ns, z.natAbs < 2 ^ B) (hB : 40 ≤ B) (hB2 : B ≤ 20000000) (k : Nat) (hk : k ≤ 1000) : v_law_cell ns (k : Int) ∧ Sm (q_law_cell ns (k : Int)) (B + 20) := by
  have big : 2 ^ 40 ≤ 2 ^ B := Nat.pow_le_pow_right (by decide) hB
  have sk : Sm (k : Int) 10 := ⟨by show (k : Int).natAbs < 2 ^ 10; omega, by decide⟩
  have s1 : Sm (31 : Int) 5 := ⟨by decide, by decide⟩
  have s2 : Sm (7919 : Int) 13 := ⟨by decide, by decide⟩
  have s3 : Sm (104729 : Int) 17 := ⟨by decide, by decide⟩
  have mem : ∀ {i : Int}, inR ns i → Sm (gt ns i) B := fun {i} h => ⟨hb _ (gt_mem h), by omega⟩
  by_cases h1 : (k : Int) < (ns.length : Int)
  · have E : q_law_cell ns (k : Int) = gt ns (k : Int) := by
      show (if decide ((k : Int) < (ns.length : Int)) = true then _ else _) = _
      rw [if_pos (decide_eq_true h1)]; rfl
    have ir : inR ns (k : Int) := inR_nat (by omega)
    rw [E]
    exact ⟨⟨fun _ => ir, fun w => absurd h1 (of_decide_eq_false w)⟩, (mem ir).up (by omega)⟩
  · by_cases h2 : (ns.length : Int) = 0
    · have E : q_law_cell ns (k : Int) = 31 * (k : Int) := by
        show (if decide ((k : Int) < (ns.length : Int)) = true then _ else (if decide ((ns.length : Int) = 0) = true then _ else _)) = _
        rw [if_neg (by simpa using h1), if_pos (decide_eq_true h2)]; rfl
      rw [E]
      exact ⟨⟨fun w => absurd (of_decide_eq_true w) h1, fun _ => ⟨fun _ => mulOk_sm s1 sk (by decide), fun w => absurd h2 (of_decide_eq_false w)⟩⟩, s1.mulUp sk (by omega)⟩
    · have E : q_law_cell ns (k : Int) = (gt ns (0 : Int)) * 7919 + 104729 * (k : Int) := by
        show (if decide ((k : Int) < (ns.length : Int)) = true then _ else (if decide ((ns.length : Int) = 0) = true then _ else _)) = _
        rw [if_neg (by simpa using h1), if_neg (by simpa using h2)]; rfl
      have ir : inR ns (0 : Int) := inR_nat (k := 0) (by omega)
      rw [E]
      exact ⟨⟨fun w => absurd (of_decide_eq_true w) h1, fun _ => ⟨fun w => absurd (of_decide_eq_true w) h2, fun _ => ⟨ir, mulOk_sm (mem ir) s2 (by omega), mulOk_sm s3 sk (by decide)⟩⟩⟩, ((mem ir).mulUp s2 (Nat.le_refl _)).addUp2 (s3.mulUp sk (Nat.le_refl _)) (by omega) (by omega)⟩
structure Dgs (xs : List Int) (n : Nat) (lim : Int) : Prop where
  len : xs.length = n
  mem : ∀ x ∈ xs, 0 ≤ x ∧ x < lim
theorem Dgs.at {xs : List Int} {n : Nat} {lim : Int} (h : Dgs xs n lim) {i : Int} (h0 : 0 ≤ i) (h1 : i < n) : inR xs i ∧ 0 ≤ gt xs i ∧ gt xs i < lim := by
  have := h.len
  have ir : inR xs i := inR_i h0 (by omega)
  exact ⟨ir, h.mem _ (gt_mem ir)⟩
theorem digits_spec {cell lim : Int} {B count : Nat} (hc : Sm cell B) (hB : B ≤ 30000000) (h1 : 1 ≤ lim) (hn : count ≤ 1000) : v_law_digits cell lim (count : Int) ∧ Dgs (q_law_digits cell lim (count : Int)) count lim := by
  have main : ∀ (rest : Int) (wh : Bool), forV (fun (s3 : Int × (List Int)) (x4 : Int) => v_law_digits_4 cell lim s3.1 wh s3.2 x4) (fun (s3 : Int × (List Int)) (x4 : Int) => q_law_digits_4 cell lim s3.1 wh s3.2 x4) (rngT 0 (count : Int)) (rest, []) ∧ Dgs ((rngT 0 (count : Int)).foldl (fun (s3 : Int × (List Int)) (x4 : Int) => q_law_digits_4 cell lim s3.1 wh s3.2 x4) (rest, [])).2 count lim := by
    intro rest wh
    have lp := forV_inv0 (V := fun (s3 : Int × (List Int)) (x4 : Int) => v_law_digits_4 cell lim s3.1 wh s3.2 x4) (f := fun (s3 : Int × (List Int)) (x4 : Int) => q_law_digits_4 cell lim s3.1 wh s3.2 x4) (xs := rngT 0 (count : Int)) (s := (rest, ([] : List Int)))
      (fun i s => Dgs s.2 i lim) ⟨rfl, fun x hx => (nomatch hx)⟩ fun i x s hx hs => by
        obtain ⟨r, xs⟩ := s
        obtain ⟨hi, e⟩ := rngT0_get hx
        subst e
        replace hs : Dgs xs i lim := hs
        have hln : xs.length < LINE := line_lt (by have := hs.len; omega)
        have app : ∀ y : Int, Dgs (xs ++ [Int.fmod y lim]) (i + 1) lim := fun y => by
          have f := fmod_pos (i := y) (j := lim) (by omega)
          refine ⟨by simp [hs.len], fun z hz => ?_⟩
          rcases List.mem_append.mp hz with q | q
          · exact hs.mem z q
          · have : z = Int.fmod y lim := by simpa using q
            omega
        have sk : Sm (i : Int) 10 := ⟨by show (i : Int).natAbs < 2 ^ 10; omega, by decide⟩
        have ca : Sm ((cell.natAbs : Int) + 3) (B + 2) := by
          have a : Sm (cell.natAbs : Int) B := ⟨by rw [Int.natAbs_natCast]; exact hc.1, hc.2⟩
          have b : Sm (3 : Int) 2 := ⟨by decide, by decide⟩
          have := hc.2
          exact a.addUp2 b (by omega) (by omega)
        have s1 : Sm (48271 : Int) 16 := ⟨by decide, by decide⟩
        have s2 : Sm (69621 : Int) 17 := ⟨by decide, by decide⟩
        have s3 : Sm (16807 : Int) 15 := ⟨by decide, by decide⟩
        have s4 : Sm (11 : Int) 4 := ⟨by decide, by decide⟩
        have fm := fmod_pos (i := (((cell.natAbs : Int) + 3) * 48271) + ((i : Int) * 69621)) (j := 2147483647) (by decide)
        have sm : Sm (Int.fmod ((((cell.natAbs : Int) + 3) * 48271) + ((i : Int) * 69621)) 2147483647) 31 := ⟨by omega, by decide⟩
        show v_law_digits_4 cell lim r wh xs (i : Int) ∧ Dgs (q_law_digits_4 cell lim r wh xs (i : Int)).2 (i + 1) lim
        unfold v_law_digits_4 q_law_digits_4
        by_cases hcnd : (wh && decide (r > (0 : Int))) = true
        · rw [hcnd, if_pos rfl]
          exact ⟨⟨fun _ => ⟨by omega, hln, by show lim ≠ 0; omega⟩, fun w => (nomatch w)⟩, app _⟩
        · have hcf : (wh && decide (r > (0 : Int))) = false := by simpa using hcnd
          rw [hcf, if_neg (by decide)]
          exact ⟨⟨fun w => (nomatch w), fun _ => ⟨mulOk_sm ca s1 (by omega), mulOk_sm sk s2 (by decide), mulOk_sm sm s3 (by decide), mulOk_sm s4 sk (by decide), by omega, hln⟩⟩, app _⟩
    rw [rngT0_length] at lp
    exact lp
  obtain ⟨v, d⟩ := main (cell.natAbs : Int) (decide ((cell.natAbs : Int) ≥ (1000000000000000000 : Int)))
  exact ⟨⟨rOk_nat (by omega), v⟩, d⟩
theorem ltr_spec {xs : List Int} (hl : xs.length ≤ 10000000) : v_law_trim xs ∧ q_law_trim xs = trim xs := by
  have lp := forV_inv0 (V := fun (s2 : Int) (x3 : Int) => v_law_trim_2 xs s2 x3) (f := fun (s2 : Int) (x3 : Int) => q_law_trim_2 xs s2 x3) (xs := rngT 0 (xs.length : Int)) (s := (0 : Int))
    (fun i s => ∃ m : Nat, s = (m : Int) ∧ m ≤ i ∧ (∀ k, m ≤ k → k < i → co xs k = 0) ∧ (m ≠ 0 → co xs (m - 1) ≠ 0)) ⟨0, rfl, Nat.le_refl _, fun k _ h => absurd h (by omega), fun h => absurd rfl h⟩ fun i x s hx ⟨m, e, h1, h2, h3⟩ => by
      obtain ⟨hi, ex⟩ := rngT0_get hx
      subst ex
      subst e
      refine ⟨inR_nat hi, ?_⟩
      show ∃ m' : Nat, q_law_trim_2 xs (m : Int) (i : Int) = (m' : Int) ∧ _
      unfold q_law_trim_2 q_law_trim_3
      rw [gt_co]
      by_cases z : co xs i = 0
      · rw [decide_eq_true z, if_neg (by decide)]
        exact ⟨m, rfl, by omega, fun k a b => by
          by_cases q : k = i
          · rw [q]; exact z
          · exact h2 k a (by omega), h3⟩
      · rw [decide_eq_false z, if_pos (by decide)]
        exact ⟨i + 1, rfl, Nat.le_refl _, fun k a b => absurd a (by omega), fun _ => by rw [show i + 1 - 1 = i by omega]; exact z⟩
  rw [rngT0_length] at lp
  obtain ⟨v, m, e, h1, h2, h3⟩ := lp
  have ts : tsz xs = m := tsz_eq (fun k hk => by
    by_cases q : k < xs.length
    · exact h2 k hk q
    · exact co_ge (by omega)) h3
  refine ⟨⟨rOk_nat (by omega), v⟩, ?_⟩
  show cutT xs none (some (q_law_trim_4 xs 0)) = trim xs
  rw [show q_law_trim_4 xs 0 = (m : Int) from e, cut_take h1]
  unfold trim
  rw [ts]
section
variable {xs ys : List Int} {n b m c : Nat}
theorem lmul_spec (hp : LS xs n b) (hq : LS ys m c) (hb : b ≤ 40000000) (hc : c ≤ 40000000) (hn : n ≤ 1000000) (hm : m ≤ 1000000) : v_law_mul xs ys ∧ LS (q_law_mul xs ys) (n + m) (b + c + n) ∧ lv (q_law_mul xs ys) = lv xs * lv ys ∧ Tr (q_law_mul xs ys) := by
  obtain ⟨v, l, e⟩ := product_spec hp hq hb hc hn hm
  obtain ⟨v2, e2⟩ := ltr_spec (xs := q_law_product xs ys) (by have := l.len; omega)
  have E : q_law_mul xs ys = q_law_trim (q_law_product xs ys) := rfl
  have V : v_law_mul xs ys := by
    obtain ⟨a1, a2, a3, a4⟩ := v
    exact ⟨a1, a2, a3, a4, v2⟩
  rw [E, e2]
  exact ⟨V, trim_ls l, by rw [trim_lv, e], trim_tr _⟩
theorem lscale_spec {f : Int} {s : Nat} (hp : LS xs n b) (hf : Sm f s) (hb : b + s ≤ 80000000) (hn : n ≤ 1000000) : v_law_scale xs f ∧ LS (q_law_scale xs f) n (b + s) ∧ lv (q_law_scale xs f) = ci f * lv xs ∧ Tr (q_law_scale xs f) := by
  have hl := hp.len
  obtain ⟨v2, e2⟩ := ltr_spec (xs := xs.map fun (x : Int) => f * x) (by rw [List.length_map]; omega)
  have E : q_law_scale xs f = q_law_trim (xs.map fun (x : Int) => f * x) := rfl
  rw [E, e2]
  refine ⟨⟨fun x hx => mulOk_sm hf (hp.mem hx) (by omega), line_le (by omega), v2⟩, trim_ls ⟨by rw [List.length_map]; exact hl, fun k => by
    rw [co_map (fun x => f * x) (by simp)]; exact hf.mulUp (hp.c k) (by omega)⟩, by rw [trim_lv, lv_map], trim_tr _⟩
theorem lsum_spec (hp : LS xs n b) (hq : LS ys m c) (hn : n ≤ 1000000) (hm : m ≤ 1000000) : v_law_sum_x2 xs ys ∧ LS (q_law_sum_x2 xs ys) (max n m) (b + c + 1) ∧ lv (q_law_sum_x2 xs ys) = lv xs + lv ys ∧ Tr (q_law_sum_x2 xs ys) := by
  have l1 := hp.len
  have l2 := hq.len
  have zl : ((rngT 0 (max (xs.length : Int) (ys.length : Int))).map fun (x1 : Int) => (0 : Int)) = List.replicate (max xs.length ys.length) 0 := by
    rw [rng_zeros]; congr 1; omega
  have lp1 := forV_inv0 (V := fun (s3 : (List Int)) (x4 : Int) => v_law_sum_x2_2 xs ys s3 x4) (f := fun (s3 : (List Int)) (x4 : Int) => q_law_sum_x2_2 xs ys s3 x4) (xs := rngT 0 (xs.length : Int)) (s := List.replicate (max xs.length ys.length) 0)
    (fun j r => r.length = max xs.length ys.length ∧ ∀ k, co r k = if k < j then co xs k else 0) ⟨by simp, fun k => by rw [if_neg (by omega), co_repl]⟩ fun j x r hx ⟨h1, h2⟩ => by
      obtain ⟨hj, e⟩ := rngT0_get hx
      subst e
      have hlt : j < r.length := by omega
      refine ⟨⟨inR_nat hj, inR_nat hlt⟩, ?_⟩
      show (setT r (j : Int) (gt xs (j : Int))).length = _ ∧ ∀ k, co (setT r (j : Int) (gt xs (j : Int))) k = _
      rw [setT_nat hlt, gt_co]
      refine ⟨by simp [h1], fun k => ?_⟩
      rw [co_set hlt]
      by_cases q : k = j
      · rw [if_pos q, if_pos (by omega), q]
      · rw [if_neg q, h2]
        by_cases q2 : k < j
        · rw [if_pos q2, if_pos (by omega)]
        · rw [if_neg q2, if_neg (by omega)]
  rw [rngT0_length] at lp1
  obtain ⟨w1, a1, a2⟩ := lp1
  have one : ∀ (r : List Int) (j : Nat), q_law_sum_x2_5 ys r (j : Int) = setT r (j : Int) (gt r (j : Int) + 1 * gt ys (j : Int)) := fun r j => by rw [Int.one_mul]; rfl
  have lp2 := forV_inv0 (V := fun (s6 : (List Int)) (x7 : Int) => v_law_sum_x2_5 ys s6 x7) (f := fun (s6 : (List Int)) (x7 : Int) => q_law_sum_x2_5 ys s6 x7) (xs := rngT 0 (ys.length : Int)) (s := q_law_sum_x2_3 xs ys (List.replicate (max xs.length ys.length) 0))
    (fun j r => r.length = (q_law_sum_x2_3 xs ys (List.replicate (max xs.length ys.length) 0)).length ∧ ∀ k, co r k = co (q_law_sum_x2_3 xs ys (List.replicate (max xs.length ys.length) 0)) k + (if k < j then 1 * co ys k else 0)) ⟨rfl, fun k => by rw [if_neg (by omega)]; omega⟩ fun j x r hx hr => by
      obtain ⟨hj, e⟩ := rngT0_get hx
      subst e
      have hrl := hr.1
      have a1' : (q_law_sum_x2_3 xs ys (List.replicate (max xs.length ys.length) 0)).length = _ := a1
      have ir : inR r (j : Int) := inR_nat (by omega)
      refine ⟨⟨ir, inR_nat hj, ir⟩, ?_⟩
      show (q_law_sum_x2_5 ys r (j : Int)).length = _ ∧ ∀ k, co (q_law_sum_x2_5 ys r (j : Int)) k = _
      rw [one]
      exact add_loop (by omega) j (by omega) r hr hj
  rw [rngT0_length] at lp2
  obtain ⟨w2, b1, b2⟩ := lp2
  have a1' : (q_law_sum_x2_3 xs ys (List.replicate (max xs.length ys.length) 0)).length = _ := a1
  have a2' : ∀ k, co (q_law_sum_x2_3 xs ys (List.replicate (max xs.length ys.length) 0)) k = _ := a2
  have hF : q_law_sum_x2 xs ys = q_law_trim (q_law_sum_x2_6 ys (q_law_sum_x2_3 xs ys (List.replicate (max xs.length ys.length) 0))) := by
    rw [← zl]; rfl
  have b1' : (q_law_sum_x2_6 ys (q_law_sum_x2_3 xs ys (List.replicate (max xs.length ys.length) 0))).length = _ := b1
  have b2' : ∀ k, co (q_law_sum_x2_6 ys (q_law_sum_x2_3 xs ys (List.replicate (max xs.length ys.length) 0))) k = co xs k + co ys k := fun k => by
    refine (b2 k).trans ?_
    rw [a2' k]
    have e1 : (if k < xs.length then co xs k else 0) = co xs k := by
      split
      · rfl
      · rw [co_ge (by omega)]
    have e2 : (if k < ys.length then 1 * co ys k else 0) = co ys k := by
      split
      · omega
      · rw [co_ge (by omega)]
    rw [e1, e2]
  obtain ⟨v3, e3⟩ := ltr_spec (xs := q_law_sum_x2_6 ys (q_law_sum_x2_3 xs ys (List.replicate (max xs.length ys.length) 0))) (by omega)
  refine ⟨⟨rOk_of (by omega) (by omega), line_le (by rw [rngT_length]; omega), ?_⟩, ?_⟩
  · rw [zl]
    exact ⟨rOk_nat (by omega), w1, rOk_nat (by omega), w2, v3⟩
  · rw [hF, e3]
    refine ⟨trim_ls ⟨by omega, fun k => by rw [b2']; exact (hp.c k).addUp2 (hq.c k) (by omega) (by omega)⟩, ?_, trim_tr _⟩
    rw [trim_lv]
    exact Ps.ext fun k => by rw [lv_cf, b2', Ps.add_cf, lv_cf, lv_cf, Rat.intCast_add]
theorem lsh_spec {s : Int} {k : Nat} (hx : LS xs n b) (hs : Sm s k) (hn : n ≤ 1000) (hb : b + (k + 1) * n * n + k ≤ 90000000) : v_law_shift xs s ∧ (q_law_shift xs s).length = xs.length ∧ LS (q_law_shift xs s) n (b + (k + 1) * n) ∧ Shd s (lv xs) (lv (q_law_shift xs s)) := by
  obtain ⟨h1, h2, h3, h4⟩ := shift_list (p := (⟨xs, 1⟩ : Po)) hx hs hn hb
  have E : q_law_shift xs s = q_Poly_shifted_4 (⟨xs, 1⟩ : Po) s xs := rfl
  have l1 := hx.len
  have m1 : (k + 1) * xs.length ≤ (k + 1) * n := Nat.mul_le_mul_left _ l1
  rw [E]
  refine ⟨⟨h1, h2⟩, h3, ⟨by have h3' : (q_Poly_shifted_4 (⟨xs, 1⟩ : Po) s xs).length = xs.length := h3; omega, fun j => ?_⟩, shd_list h4⟩
  rw [show co (q_Poly_shifted_4 (⟨xs, 1⟩ : Po) s xs) j = shc s xs j from h4 j]
  exact (shc_sm hs xs hx.c j).up (by omega)
end
noncomputable def pt (a : List Int × Int) : Ps Rat := Ps.c ((a.2 : Rat)⁻¹) * lv a.1
structure PtS (a : List Int × Int) (n b : Nat) : Prop where
  ls : LS a.1 n b
  d : Sm a.2 b
  ne : a.2 ≠ 0
theorem PtS.up {a : List Int × Int} {n b m c : Nat} (h : PtS a n b) (l : n ≤ m) (k : b ≤ c) : PtS a m c := ⟨h.ls.up l k, h.d.up k, h.ne⟩
theorem PtS.pl (a : List Int × Int) : Pl (pt a) := (Pl.c _).mul (Pl.lv _)
theorem PtS.lv {a : List Int × Int} {n b : Nat} (h : PtS a n b) : Pd.lv a.1 = ci a.2 * pt a := by
  have k := cc (ic_ne h.ne)
  show _ = Ps.c (a.2 : Rat) * (Ps.c ((a.2 : Rat)⁻¹) * Pd.lv a.1)
  have : Ps.c (a.2 : Rat) * (Ps.c ((a.2 : Rat)⁻¹) * Pd.lv a.1) = (Ps.c (a.2 : Rat) * Ps.c ((a.2 : Rat)⁻¹)) * Pd.lv a.1 := by grind
  rw [this, k]; grind
theorem ci_inj {d : Int} (h : d ≠ 0) {f g : Ps Rat} (e : ci d * f = ci d * g) : f = g := ci_can h e
section
variable {x y : List Int × Int} {n b m c : Nat}
theorem lpoly_spec (hx : PtS x n b) (hn : n ≤ 10000000) : v_law_poly x ∧ PoS (q_law_poly x) n b ∧ pv (q_law_poly x) = pt x := by
  obtain ⟨v, s, e⟩ := hx.ls.po hx.ne hn hx.d
  exact ⟨v, s, ci_inj hx.ne (by rw [← hx.lv]; exact e.symm)⟩
theorem ltimes_spec (hx : PtS x n b) (hy : PtS y m c) (hb : b ≤ 40000000) (hc : c ≤ 40000000) (hn : n ≤ 1000000) (hm : m ≤ 1000000) : v_law_times x y ∧ PtS (q_law_times x y) (n + m) (b + c + n) ∧ pt (q_law_times x y) = pt x * pt y ∧ Tr (q_law_times x y).1 := by
  obtain ⟨v, l, e, t⟩ := lmul_spec hx.ls hy.ls hb hc hn hm
  have h : PtS (q_law_times x y) (n + m) (b + c + n) := ⟨l, hx.d.mulUp hy.d (by omega), Int.mul_ne_zero hx.ne hy.ne⟩
  refine ⟨⟨v, mulOk_sm hx.d hy.d (by omega)⟩, h, ci_inj h.ne ?_, t⟩
  rw [← h.lv]
  show lv (q_law_mul x.1 y.1) = ci (x.2 * y.2) * _
  rw [e, hx.lv, hy.lv, ci_mul]; grind
theorem lplus_spec (hx : PtS x n b) (hy : PtS y m c) (hb : b + c ≤ 40000000) (hn : n ≤ 1000000) (hm : m ≤ 1000000) : v_law_plus x y ∧ PtS (q_law_plus x y) (max n m) (b + c + (b + c) + 1) ∧ pt (q_law_plus x y) = pt x + pt y ∧ Tr (q_law_plus x y).1 := by
  obtain ⟨v1, l1, e1, _⟩ := lscale_spec hx.ls hy.d (by omega) hn
  obtain ⟨v2, l2, e2, _⟩ := lscale_spec hy.ls hx.d (by omega) hm
  obtain ⟨v, l, e, t⟩ := lsum_spec l1 l2 hn hm
  have h : PtS (q_law_plus x y) (max n m) (b + c + (b + c) + 1) := ⟨l.up (Nat.le_refl _) (by omega), hx.d.mulUp hy.d (by omega), Int.mul_ne_zero hx.ne hy.ne⟩
  refine ⟨⟨v1, v2, v, mulOk_sm hx.d hy.d (by omega)⟩, h, ci_inj h.ne ?_, t⟩
  rw [← h.lv]
  show lv (q_law_sum_x2 (q_law_scale x.1 y.2) (q_law_scale y.1 x.2)) = ci (x.2 * y.2) * _
  rw [e, e1, e2, hx.lv, hy.lv, ci_mul]; grind
theorem lmove_spec {s : Int} {k : Nat} (hx : PtS x n b) (hs : Sm s k) (hn : n ≤ 1000) (hb : b + (k + 1) * n * n + k ≤ 90000000) : v_law_move x s ∧ PtS (q_law_move x s) n (b + (k + 1) * n) ∧ Shd s (pt x) (pt (q_law_move x s)) ∧ (q_law_move x s).1.length = x.1.length := by
  obtain ⟨v, l, h, sh⟩ := lsh_spec hx.ls hs hn hb
  exact ⟨v, ⟨h, hx.d.up (by omega), hx.ne⟩, Shd.mul (Pl.c _) (Pl.lv _) (Pl.c _) (Pl.lv _) (Shd.c s _) sh, l⟩
end
end Pd
set_option maxHeartbeats 2000000
namespace Pd
open PySem PySem.Spec L2
theorem cut_mid {α : Type} {xs : List α} {n m : Nat} (h : n ≤ xs.length) (h2 : m ≤ xs.length) : cutT xs (some (n : Int)) (some (m : Int)) = (xs.drop n).take (m - n) := by
  unfold cutT
  rw [HT.sIx_nat, HT.sIx_nat, Nat.min_eq_left h, Nat.min_eq_left h2]
def DL (f : Ps Rat) (n : Nat) : Prop := Ps.Bd n f ∧ (n ≠ 0 → f.cf (n - 1) ≠ 0)
theorem DL.uniq {f : Ps Rat} {n m : Nat} (h : DL f n) (k : DL f m) : n = m := by
  rcases Nat.lt_trichotomy n m with q | q | q
  · exact absurd (h.1 (m - 1) (by omega)) (k.2 (by omega))
  · exact q
  · exact absurd (k.1 (n - 1) (by omega)) (h.2 (by omega))
theorem DL.zero {f : Ps Rat} {n : Nat} (h : DL f n) : n = 0 ↔ f = 0 := by
  constructor
  · rintro rfl; exact h.1.nil
  · intro z
    refine Classical.byContradiction fun q => h.2 q ?_
    rw [z, Ps.zero_cf]
theorem pt_cf (a : List Int × Int) (k : Nat) : (pt a).cf k = (a.2 : Rat)⁻¹ * (co a.1 k : Rat) := by
  show (Ps.c ((a.2 : Rat)⁻¹) * lv a.1).cf k = _
  rw [Ps.c_mul, lv_cf]
theorem pt_DL {a : List Int × Int} {n b : Nat} (h : PtS a n b) (t : Tr a.1) : DL (pt a) a.1.length := ⟨fun k hk => by
  rw [pt_cf, co_ge hk, show ((0 : Int) : Rat) = 0 from rfl, Rat.mul_zero], fun z => by
  have h1 := t (len_ne.mpr (by omega))
  rw [pt_cf]
  intro w
  rcases Rat.mul_eq_zero.mp w with q | q
  · exact inv_ne (ic_ne h.ne) q
  · exact ic_ne h1 q⟩
structure IsB (D S : Ps Rat) (lC lD lS : Nat) (v : Int) : Prop where
  ge : lS ≤ lD → v = max (-1) ((lC : Int) - lD)
  yes : lD < lS → ∀ z : Int, (z : Rat) * S.cf (lS - 1) = (if 2 ≤ lS then -(D.cf (lS - 2) + D.cf (lS - 2)) else 0) → v = max (max (-1) ((lC : Int) - lS + 1)) z
  no : lD < lS → (∀ z : Int, (z : Rat) * S.cf (lS - 1) ≠ (if 2 ≤ lS then -(D.cf (lS - 2) + D.cf (lS - 2)) else 0)) → v = max (-1) ((lC : Int) - lS + 1)
theorem IsB.uniq {D S : Ps Rat} {lC lD lS : Nat} {v w : Int} (h : IsB D S lC lD lS v) (k : IsB D S lC lD lS w) : v = w := by
  by_cases q : lS ≤ lD
  · rw [h.ge q, k.ge q]
  · by_cases z : ∃ z : Int, (z : Rat) * S.cf (lS - 1) = (if 2 ≤ lS then -(D.cf (lS - 2) + D.cf (lS - 2)) else 0)
    · obtain ⟨z, e⟩ := z
      rw [h.yes (by omega) z e, k.yes (by omega) z e]
    · have n : ∀ z : Int, (z : Rat) * S.cf (lS - 1) ≠ (if 2 ≤ lS then -(D.cf (lS - 2) + D.cf (lS - 2)) else 0) := fun y e => z ⟨y, e⟩
      rw [h.no (by omega) n, k.no (by omega) n]
end Pd
set_option maxHeartbeats 2000000
namespace Pd
open PySem PySem.Spec L2
section
variable {p q r : Po} {n b m c : Nat}
end
end Pd
set_option maxHeartbeats 2000000
namespace Pd
open PySem PySem.Spec L2
theorem rngN_in {a : Int} : ∀ {n i : Nat}, i < n → a + i ∈ rngN a n
  | 0, i, h => absurd h (Nat.not_lt_zero _)
  | n + 1, 0, _ => by simp [rngN]
  | n + 1, i + 1, h => by
    have := rngN_in (a := a + 1) (n := n) (i := i) (by omega)
    rw [show a + ((i + 1 : Nat) : Int) = a + 1 + i by omega]
    show _ ∈ _ :: _
    exact List.mem_cons_of_mem _ this
theorem rngT_mem {a b x : Int} : x ∈ rngT a b ↔ a ≤ x ∧ x < b := by
  constructor
  · intro h
    obtain ⟨i, hi⟩ := List.getElem?_of_mem h
    obtain ⟨h1, h2⟩ := rngT_get hi
    omega
  · rintro ⟨h1, h2⟩
    have := rngN_in (a := a) (n := (b - a).toNat) (i := (x - a).toNat) (by omega)
    rw [show a + (((x - a).toNat : Nat) : Int) = x by omega] at this
    exact this
theorem dv_Bd {f g : Ps Rat} {m : Nat} (pf : Pl f) (h : Dv f g) (hg : Ps.Bd m g) (g0 : g ≠ 0) : Ps.Bd m f := by
  obtain ⟨k, hk⟩ := dg_ex hg g0
  have f0 : f ≠ 0 := fun z => by
    obtain ⟨a, pa, e⟩ := h
    exact g0 (by rw [e, z]; grind)
  obtain ⟨j, hj⟩ := pf.dg f0
  have l1 := h.deg hj hk
  have : k < m := Classical.byContradiction fun w => hk.2 (hg k (by omega))
  exact hj.1.up (by omega)
structure Rp (x : Qt) (N D : Ps Rat) : Prop where
  pN : Pl N
  pD : Pl D
  ne : D ≠ 0
  eq : pv x.num * D = N * pv x.den
section
variable {x y : Qt} {n b m c : Nat} {N D N' D' : Ps Rat}
theorem QtS.rp (h : QtS x n b) : Rp x (pv x.num) (pv x.den) := ⟨h.num.pl, h.den.pl, h.ne, rfl⟩
theorem Rp.to (h : Rp x N D) (hx : QtS x n b) (pN' : Pl N') (pD' : Pl D') (ne : D' ≠ 0) (e : N * D' = N' * D) : Rp x N' D' := ⟨pN', pD', ne, by
  refine mul_can h.pD (hx.num.pl.mul pD') (pN'.mul hx.den.pl) h.ne ?_
  have e1 := h.eq
  generalize pv x.num = X at *
  generalize pv x.den = Y at *
  have : D * (X * D') = (X * D) * D' := by grind
  rw [this, e1]
  have : N * Y * D' = N * D' * Y := by grind
  rw [this, e]; grind⟩
theorem Rp.cross (h : Rp x N D) (k : Rp x N' D') (hx : QtS x n b) : N * D' = N' * D := by
  refine mul_can hx.den.pl (h.pN.mul k.pD) (k.pN.mul h.pD) hx.ne ?_
  have e1 := h.eq
  have e2 := k.eq
  generalize pv x.num = X at *
  generalize pv x.den = Y at *
  have : Y * (N * D') = (N * Y) * D' := by grind
  rw [this, ← e1]
  have : Y * (N' * D) = (N' * Y) * D := by grind
  rw [this, ← e2]; grind
theorem Rp.tight (h : Rp x N D) (hx : QtS x n b) (bN : Ps.Bd m N) (bD : Ps.Bd m D) : QtS x m b := by
  have e := h.eq
  have t2 : Ps.Bd m (pv x.den) := dv_Bd hx.den.pl (hx.cop.symm.dvd ⟨N, h.pN, by rw [e]; grind⟩ h.pD) bD h.ne
  have t1 : Ps.Bd m (pv x.num) := by
    by_cases z : N = 0
    · have : pv x.num = 0 := Classical.byContradiction fun w => mul_ne hx.num.pl h.pD w h.ne (by rw [e, z]; grind)
      rw [this]; exact Ps.Bd.zero.up (Nat.zero_le _)
    · exact dv_Bd hx.num.pl (hx.cop.dvd ⟨D, h.pD, by rw [e]; grind⟩ h.pN) bN z
  exact ⟨hx.num.tight t1, hx.den.tight t2, hx.cop, hx.nz, hx.mon⟩
theorem Rp.size {A B : Po} {s : Nat} (h : Rp x (pv A) (pv B)) (hx : QtS x n b) (hA : PoS A m s) (hB : PoS B m s) (hm : m ≤ 1000000) : QtS x m (Eb m s + 2 * s) :=
  qt_size (h.tight hx (pv_Bd hA) (pv_Bd hB)) hA hB (fun z => h.ne (pv_nil z)) h.eq hm
theorem Rp.zero (h : Rp x N D) (hx : QtS x n b) : x.num.coefs = [] ↔ N = 0 := by
  have e := h.eq
  constructor
  · intro z
    rw [pv_nil z] at e
    exact Classical.byContradiction fun w => mul_ne h.pN hx.den.pl w hx.ne (by rw [← e]; grind)
  · intro z
    rw [z] at e
    refine (pv_zero_iff hx.num).mp (Classical.byContradiction fun w => mul_ne hx.num.pl h.pD w h.ne (by rw [e]; grind))
theorem Rp.eqv (h : Rp x N D) (hx : QtS x n b) (k : Rp y N' D') (hy : QtS y m c) : q_Quotient_eq x y = true ↔ N * D' = N' * D := by
  rw [qeq_spec hx hy]
  constructor
  · intro e
    exact h.cross (⟨k.pN, k.pD, k.ne, by
      refine mul_can hy.den.pl (hx.num.pl.mul k.pD) (k.pN.mul hx.den.pl) hy.ne ?_
      have e1 := k.eq
      generalize pv x.num = X at *
      generalize pv x.den = Y at *
      generalize pv y.num = Z at *
      generalize pv y.den = W at *
      have : W * (X * D') = (X * W) * D' := by grind
      rw [this, e]
      have : Z * Y * D' = (Z * D') * Y := by grind
      rw [this, e1]; grind⟩) hx
  · intro e
    have r : Rp x N' D' := h.to hx k.pN k.pD k.ne e
    have e1 := r.eq
    have e2 := k.eq
    refine mul_can k.pD (hx.num.pl.mul hy.den.pl) (hy.num.pl.mul hx.den.pl) k.ne ?_
    generalize pv x.num = X at *
    generalize pv x.den = Y at *
    generalize pv y.num = Z at *
    generalize pv y.den = W at *
    have : D' * (X * W) = (X * D') * W := by grind
    rw [this, e1]
    have : D' * (Z * Y) = (Z * D') * Y := by grind
    rw [this, e2]; grind
variable {M B : Nat}
end
end Pd
set_option maxHeartbeats 2000000
namespace Pd
open PySem PySem.Spec L2
def Iw (W : Int) (e : Nat) (g : Ps Rat) : Prop := ∀ k, ∃ z : Int, g.cf k = (z : Rat) * (W : Rat)⁻¹ ∧ Sm z e
theorem Iw.up {W : Int} {e f : Nat} {g : Ps Rat} (h : Iw W e g) (l : e ≤ f) : Iw W f g := fun k => let ⟨z, a, b⟩ := h k; ⟨z, a, b.up l⟩
theorem Iw.zero {W : Int} {e : Nat} (he : 0 < e) : Iw W e 0 := fun k => ⟨0, by rw [Ps.zero_cf, show ((0 : Int) : Rat) = 0 from rfl, Rat.zero_mul], Sm.zero he⟩
theorem Iw.add {W : Int} {e f c : Nat} {g h : Ps Rat} (a : Iw W e g) (b : Iw W f h) (l : e + 1 ≤ c) (l' : f + 1 ≤ c) : Iw W c (g + h) := fun k => by
  obtain ⟨z, e1, s1⟩ := a k
  obtain ⟨y, e2, s2⟩ := b k
  exact ⟨z + y, by rw [Ps.add_cf, e1, e2, Rat.intCast_add]; grind, s1.addUp2 s2 l l'⟩
theorem Iw.neg {W : Int} {e : Nat} {g : Ps Rat} (a : Iw W e g) : Iw W e (-g) := fun k => by
  obtain ⟨z, e1, s1⟩ := a k
  exact ⟨-z, by rw [Ps.neg_cf, e1, Rat.intCast_neg]; grind, s1.negUp⟩
theorem Iw.mulW {W V : Int} {e b c : Nat} {g : Ps Rat} (h : Iw W e g) (hV : Sm V b) (V0 : V ≠ 0) (l : e + b ≤ c) : Iw (W * V) c g := fun k => by
  obtain ⟨z, e1, s1⟩ := h k
  refine ⟨z * V, ?_, s1.mulUp hV l⟩
  have := ic_ne V0
  rw [e1, Rat.intCast_mul, Rat.intCast_mul]
  generalize (V : Rat) = v at *
  grind
theorem cv_smz {e e' : Nat} : ∀ (n : Nat) (f g : Nat → Int), (∀ k, n ≤ k → f k = 0) → (∀ k, Sm (f k) e) → (∀ k, Sm (g k) e') → ∀ k, Sm (Ps.cv f g k) (e + e' + n)
  | 0, f, g, h0, hf, hg, k => by
    have : f = fun _ => 0 := funext fun k => h0 k (Nat.zero_le _)
    rw [this, Ps.cv_zero]
    exact Sm.zero (by have := (hf 0).pos; omega)
  | n + 1, f, g, h0, hf, hg, 0 => by
    show Sm (f 0 * g 0) _
    exact (hf 0).mulUp (hg 0) (by omega)
  | n + 1, f, g, h0, hf, hg, k + 1 => by
    have ih := cv_smz n (Ps.sh f) g (fun k hk => h0 (k + 1) (by omega)) (fun k => hf (k + 1)) hg k
    show Sm (f 0 * g (k + 1) + Ps.cv (Ps.sh f) g k) _
    exact Sm.addUp2 ((hf 0).mulUp (hg (k + 1)) (Nat.le_refl _)) ih (by omega) (by omega)
theorem Iw.mul {W V : Int} {e e' n c : Nat} {f g : Ps Rat} (W0 : W ≠ 0) (hf : Iw W e f) (hg : Iw V e' g) (hb : Ps.Bd n f) (l : e + e' + n ≤ c) : Iw (W * V) c (f * g) := by
  have hf' : ∀ k, ∃ z : Int, f.cf k = (z : Rat) * (W : Rat)⁻¹ ∧ Sm z e := hf
  have hg' : ∀ k, ∃ z : Int, g.cf k = (z : Rat) * (V : Rat)⁻¹ ∧ Sm z e' := hg
  obtain ⟨zf, h1⟩ := Classical.axiomOfChoice hf'
  obtain ⟨zg, h2⟩ := Classical.axiomOfChoice hg'
  intro k
  have z0 : ∀ k, n ≤ k → zf k = 0 := fun k hk => by
    have := (h1 k).1
    rw [hb k hk] at this
    have w := ic_ne W0
    refine ic_eq ?_
    show (zf k : Rat) = 0
    generalize (zf k : Rat) = u at *
    generalize (W : Rat) = v at *
    grind
  refine ⟨Ps.cv zf zg k, ?_, (cv_smz n zf zg z0 (fun k => (h1 k).2) (fun k => (h2 k).2) k).up l⟩
  have ef : f = Ps.c ((W : Rat)⁻¹) * ⟨fun k => (zf k : Rat)⟩ := Ps.ext fun k => by rw [Ps.c_mul, (h1 k).1]; grind
  have eg : g = Ps.c ((V : Rat)⁻¹) * ⟨fun k => (zg k : Rat)⟩ := Ps.ext fun k => by rw [Ps.c_mul, (h2 k).1]; grind
  have e : f * g = Ps.c ((W : Rat)⁻¹ * (V : Rat)⁻¹) * ((⟨fun k => (zf k : Rat)⟩ : Ps Rat) * ⟨fun k => (zg k : Rat)⟩) := by
    rw [Ps.c_mulc]
    conv => lhs; rw [ef, eg]
    grind
  rw [e, Ps.c_mul, Ps.mul_cf, cv_cast, Rat.intCast_mul]
  generalize Ps.cv (fun i => (zf i : Rat)) (fun i => (zg i : Rat)) k = u
  have : ((W : Rat) * (V : Rat))⁻¹ = (W : Rat)⁻¹ * (V : Rat)⁻¹ := Rat.inv_mul_rev _ _ |>.trans (Rat.mul_comm _ _)
  rw [this]; grind
theorem Iw.c {W : Int} {e : Nat} {x : Int} (hW : W ≠ 0) (hx : Sm x e) : Iw W e (Ps.c ((x : Rat) * (W : Rat)⁻¹)) := fun k => by
  rw [Ps.c_cf]
  split
  · exact ⟨x, rfl, hx⟩
  · exact ⟨0, by rw [show ((0 : Int) : Rat) = 0 from rfl, Rat.zero_mul], Sm.zero hx.pos⟩
theorem PoS.iw {p : Po} {n B e : Nat} {W : Int} (hp : PoS p n B) (hn : n ≤ 1000000) (W0 : W ≠ 0) (hW : Sm W (e + 1)) (h : Iw W e (pv p)) : PoS p n (e + 1) := by
  have h' : ∀ k, ∃ z : Int, (pv p).cf k = (z : Rat) * (W : Rat)⁻¹ ∧ Sm z e := h
  obtain ⟨z, hz⟩ := Classical.axiomOfChoice h'
  have w := ic_ne W0
  have z0 : ∀ k, n ≤ k → z k = 0 := fun k hk => by
    have := (hz k).1
    rw [pv_Bd hp k hk] at this
    refine ic_eq ?_
    show (z k : Rat) = 0
    generalize (z k : Rat) = u at *
    generalize (W : Rat) = v at *
    grind
  refine po_can (G := mkL n z) (u := 1) (w := W) (e := e) (f := 1) hp (fun k => by rw [mkL_co z0]; exact (hz k).2) (by rw [mkL_len]; exact Nat.le_refl _) hn W0 (one_sm (by decide)) hW fun k => ?_
  rw [mkL_co z0, (hz k).1, show ((1 : Int) : Rat) = 1 from rfl, Rat.mul_one, Rat.div_def]
theorem PoS.toIw {p : Po} {n b : Nat} (hp : PoS p n b) : Iw p.den b (pv p) := fun k => ⟨co p.coefs k, by show (co p.coefs k : Rat) / (p.den : Rat) = _; rw [Rat.div_def], hp.c k⟩
noncomputable def pr (rows : List Po) (k : Nat) : Ps Rat := match rows[k]? with
  | some p => pv p
  | none => 0
theorem pr_some {rows : List Po} {k : Nat} {p : Po} (h : rows[k]? = some p) : pr rows k = pv p := by unfold pr; rw [h]
theorem pr_ge {rows : List Po} {k : Nat} (h : rows.length ≤ k) : pr rows k = 0 := by unfold pr; rw [List.getElem?_eq_none h]
theorem pr_take {rows : List Po} {k i : Nat} : pr (rows.take k) i = if i < k then pr rows i else 0 := by
  unfold pr
  by_cases h : i < k
  · rw [if_pos h, List.getElem?_take_of_lt h]
  · rw [if_neg h, List.getElem?_eq_none (by rw [List.length_take]; omega)]
theorem pr_map {α : Type} {xs : List α} {F : α → Po} {k : Nat} {x : α} (h : xs[k]? = some x) : pr (xs.map F) k = pv (F x) := by
  refine pr_some ?_
  rw [List.getElem?_map, h]; rfl
theorem pr_set {rows : List Po} {j k : Nat} {p : Po} (h : j < rows.length) : pr (rows.set j p) k = if k = j then pv p else pr rows k := by
  unfold pr
  rw [List.getElem?_set]
  by_cases e : k = j
  · subst e; rw [if_pos rfl, if_pos h, if_pos rfl]
  · rw [if_neg (Ne.symm e), if_neg e]
theorem gtN {α : Type} [Inhabited α] {xs : List α} {k : Nat} {x : α} (h : xs[k]? = some x) : gt xs (k : Int) = x := by
  have hk : k < xs.length := (List.getElem?_eq_some_iff.mp h).1
  unfold gt atI
  rw [ixN_n hk]
  show (xs[k]?).getD default = x
  rw [h]; rfl
theorem gtL {α : Type} [Inhabited α] {xs : List α} {x : α} (h : xs[xs.length - 1]? = some x) : gt xs (-(1 : Int)) = x := by
  have hk : xs.length - 1 < xs.length := (List.getElem?_eq_some_iff.mp h).1
  rw [show (-(1 : Int)) = -1 from rfl, gt_neg (by omega)]
  rw [List.getElem?_eq_getElem hk] at h
  exact Option.some.inj h
theorem gt_memG {α : Type} [Inhabited α] {xs : List α} {k : Nat} (h : k < xs.length) : gt xs (k : Int) ∈ xs ∧ xs[k]? = some (gt xs (k : Int)) := by
  have e : xs[k]? = some xs[k] := List.getElem?_eq_getElem h
  rw [gtN e]
  exact ⟨List.getElem_mem h, e⟩
theorem poz_iff {p : Po} {n b : Nat} (hp : PoS p n b) : q_Poly_is_zero p = true ↔ pv p = 0 := by
  rw [po_zero, decide_eq_true_iff, pv_zero_iff hp, List.length_eq_zero_iff]
theorem strip_spec {rows : List Po} (h : ∀ p ∈ rows, ∃ n b, PoS p n b) :
    whV (fun (s1 : (List Po)) => ((decide ((s1.length : Int) > (0 : Int))) && (q_Poly_is_zero (gt s1 (-(1 : Int)))))) (fun (s1 : (List Po)) => ((decide ((s1.length : Int) > (0 : Int))) = true → inR s1 (-(1 : Int)))) (fun (s1 : (List Po)) => s1.dropLast) (fun (s1 : (List Po)) => s1 ≠ []) rows ∧
    ∃ k, k ≤ rows.length ∧ wh (fun (s1 : (List Po)) => ((decide ((s1.length : Int) > (0 : Int))) && (q_Poly_is_zero (gt s1 (-(1 : Int)))))) (fun (s1 : (List Po)) => s1.dropLast) rows = rows.take k ∧ (∀ i, k ≤ i → pr rows i = 0) ∧ (0 < k → pr rows (k - 1) ≠ 0) := by
  have key : ∀ n s, (s = rows.take n ∧ n ≤ rows.length ∧ ∀ i, n ≤ i → pr rows i = 0) → 0 < n → ∃ p, rows[n - 1]? = some p ∧ gt s (-(1 : Int)) = p ∧ (q_Poly_is_zero p = true ↔ pr rows (n - 1) = 0) := fun n s ⟨h1, h2, h3⟩ hn => by
    have hk : n - 1 < rows.length := by omega
    have e : rows[n - 1]? = some rows[n - 1] := List.getElem?_eq_getElem hk
    refine ⟨_, e, ?_, ?_⟩
    · subst h1
      refine gtL ?_
      rw [List.length_take, Nat.min_eq_left h2, List.getElem?_take_of_lt (by omega)]
      exact e
    · obtain ⟨n', b, hp⟩ := h _ (List.getElem_mem hk)
      rw [pr_some e]
      exact poz_iff hp
  obtain ⟨v, k, ⟨h1, h2, h3⟩, h4⟩ := whV_inv (t := fun (s1 : (List Po)) => ((decide ((s1.length : Int) > (0 : Int))) && (q_Poly_is_zero (gt s1 (-(1 : Int)))))) (Vt := fun (s1 : (List Po)) => ((decide ((s1.length : Int) > (0 : Int))) = true → inR s1 (-(1 : Int)))) (f := fun (s1 : (List Po)) => s1.dropLast) (V := fun (s1 : (List Po)) => s1 ≠ [])
    (fun n s => s = rows.take n ∧ n ≤ rows.length ∧ ∀ i, n ≤ i → pr rows i = 0) rows.length (s := rows) ⟨by rw [List.take_length], Nat.le_refl _, fun i hi => pr_ge hi⟩ fun n s hI => by
      have hl : s.length = n := by rw [hI.1, List.length_take, Nat.min_eq_left hI.2.1]
      refine ⟨fun hp => by have := of_decide_eq_true hp; unfold inR; omega, ?_⟩
      cases n with
      | zero =>
        left
        rw [hl]; rfl
      | succ n =>
        obtain ⟨p, e1, e2, e3⟩ := key (n + 1) s hI (by omega)
        have hd : decide ((s.length : Int) > 0) = true := decide_eq_true (by omega)
        by_cases hz : pr rows n = 0
        · right
          refine ⟨by rw [hd, e2, e3.mpr hz]; rfl, fun w => by rw [w] at hl; simp at hl, n, by omega, ?_, by have := hI.2.1; omega, fun i hi => ?_⟩
          · have hd2 : s.dropLast = s.take (s.length - 1) := List.dropLast_eq_take
            rw [hd2, hl, hI.1, List.take_take, show min (n + 1 - 1) (n + 1) = n by omega]
          · by_cases q : i = n
            · rw [q]; exact hz
            · exact hI.2.2 i (by omega)
        · left
          rw [hd, e2]
          cases hq : q_Poly_is_zero p with
          | true => exact absurd (e3.mp hq) hz
          | false => rfl
  refine ⟨v, k, h2, h1, h3, fun hk z => ?_⟩
  obtain ⟨p, e1, e2, e3⟩ := key k _ ⟨h1, h2, h3⟩ hk
  have hl : (wh (fun (s1 : (List Po)) => ((decide ((s1.length : Int) > (0 : Int))) && (q_Poly_is_zero (gt s1 (-(1 : Int)))))) (fun (s1 : (List Po)) => s1.dropLast) rows).length = k := by rw [h1, List.length_take, Nat.min_eq_left h2]
  rw [hl, e2, e3.mpr z, decide_eq_true (by omega)] at h4
  cases h4
structure RV (rows : List Po) (m n : Nat) (W : Int) (e : Nat) : Prop where
  len : rows.length ≤ m
  po : ∀ p ∈ rows, ∃ B, PoS p n B
  ne : W ≠ 0
  w : Sm W (e + 1)
  val : ∀ i, Iw W e (pr rows i)
theorem RV.up {rows : List Po} {m n e m' n' e' : Nat} {W : Int} (h : RV rows m n W e) (l1 : m ≤ m') (l2 : n ≤ n') (l3 : e ≤ e') : RV rows m' n' W e' :=
  ⟨Nat.le_trans h.len l1, fun p hp => let ⟨B, s⟩ := h.po p hp; ⟨B, s.up l2 (Nat.le_refl _)⟩, h.ne, h.w.up (by omega), fun i => (h.val i).up l3⟩
theorem RV.pos {rows : List Po} {m n e : Nat} {W : Int} (h : RV rows m n W e) (hn : n ≤ 1000000) {p : Po} (hp : p ∈ rows) : PoS p n (e + 1) := by
  obtain ⟨B, s⟩ := h.po p hp
  obtain ⟨i, hi⟩ := List.getElem?_of_mem hp
  have := h.val i
  rw [pr_some hi] at this
  exact s.iw hn h.ne h.w this
theorem RV.at {rows : List Po} {m n e : Nat} {W : Int} (h : RV rows m n W e) (hn : n ≤ 1000000) {i : Nat} (hi : i < rows.length) : PoS (gt rows (i : Int)) n (e + 1) ∧ pv (gt rows (i : Int)) = pr rows i := by
  obtain ⟨a, b⟩ := gt_memG hi
  exact ⟨h.pos hn a, (pr_some b).symm⟩
theorem RV.bd {rows : List Po} {m n e : Nat} {W : Int} (h : RV rows m n W e) (i : Nat) : Ps.Bd n (pr rows i) := by
  by_cases hi : i < rows.length
  · have e : rows[i]? = some rows[i] := List.getElem?_eq_getElem hi
    rw [pr_some e]
    obtain ⟨B, s⟩ := h.po _ (List.getElem_mem hi)
    exact pv_Bd s
  · rw [pr_ge (by omega)]; exact Ps.Bd.zero.up (Nat.zero_le _)
theorem RV.bd2 {rows : List Po} {m n e : Nat} {W : Int} (h : RV rows m n W e) (i : Nat) (hi : m ≤ i) : pr rows i = 0 := pr_ge (Nat.le_trans h.len hi)
theorem RV.ep {rows : List Po} {m n e : Nat} {W : Int} (h : RV rows m n W e) : 0 < e := by
  obtain ⟨z, _, s⟩ := h.val 0 0
  exact s.pos
theorem RV.pl {rows : List Po} {m n e : Nat} {W : Int} (h : RV rows m n W e) (i : Nat) : Pl (pr rows i) := ⟨n, h.bd i⟩
noncomputable def pv2 (x : Po2) : Ps (Ps Rat) := ⟨pr x.rows⟩
structure P2V (x : Po2) (m n : Nat) (W : Int) (e : Nat) : Prop where
  rv : RV x.rows m n W e
  last : 0 < x.rows.length → pr x.rows (x.rows.length - 1) ≠ 0
theorem P2V.up {x : Po2} {m n e m' n' e' : Nat} {W : Int} (h : P2V x m n W e) (l1 : m ≤ m') (l2 : n ≤ n') (l3 : e ≤ e') : P2V x m' n' W e' := ⟨h.rv.up l1 l2 l3, h.last⟩
theorem P2V.bd {x : Po2} {m n e : Nat} {W : Int} (h : P2V x m n W e) : Ps.Bd m (pv2 x) := fun i hi => h.rv.bd2 i hi
section
variable {rows : List Po} {x y : Po2} {m n e m' n' e' : Nat} {W V : Int}
theorem init2_spec (h : RV rows m n W e) : v_Poly2_init rows ∧ P2V (q_Poly2_init rows) m n W e ∧ pv2 (q_Poly2_init rows) = ⟨pr rows⟩ := by
  obtain ⟨v, k, k1, k2, k3, k4⟩ := strip_spec (rows := rows) fun p hp => let ⟨B, s⟩ := h.po p hp; ⟨n, B, s⟩
  have E : (q_Poly2_init rows).rows = rows.take k := k2
  have hp : ∀ i, pr (q_Poly2_init rows).rows i = pr rows i := fun i => by
    rw [E, pr_take]
    split
    · rfl
    · exact (k3 i (by omega)).symm
  refine ⟨v, ⟨⟨?_, ?_, h.ne, h.w, fun i => by rw [hp]; exact h.val i⟩, fun hl => ?_⟩, Ps.ext fun i => hp i⟩
  · rw [E, List.length_take]; have := h.len; omega
  · intro p hp
    rw [E] at hp
    exact h.po p (List.mem_of_mem_take hp)
  · rw [hp]
    rw [E, List.length_take, Nat.min_eq_left k1] at hl ⊢
    exact k4 hl
theorem empty_po : v_Poly_init ([] : List Int) (1 : Int) ∧ PoS (q_Poly_init ([] : List Int) (1 : Int)) 0 1 ∧ pv (q_Poly_init ([] : List Int) (1 : Int)) = 0 := by
  obtain ⟨v, s, ev⟩ := (LS.nil (b := 1) (by decide)).po (d := 1) (by decide) (by decide) (one_sm (by decide))
  refine ⟨v, s, ?_⟩
  rw [ci_one, lv_nil] at ev
  have : (1 : Ps Rat) * pv (q_Poly_init ([] : List Int) 1) = pv (q_Poly_init ([] : List Int) 1) := by grind
  rw [← this, ← ev]
theorem rng0_get {N k : Nat} (h : k < N) : (rngT 0 (N : Int))[k]? = some (k : Int) := by
  have hl : k < (rngT 0 (N : Int)).length := by rw [rngT0_length]; exact h
  have e : (rngT 0 (N : Int))[k]? = some (rngT 0 (N : Int))[k] := List.getElem?_eq_getElem hl
  rw [e, (rngT0_get e).2]
theorem pr_rng {N : Nat} {F : Int → Po} (k : Nat) : pr ((rngT 0 (N : Int)).map F) k = if k < N then pv (F (k : Int)) else 0 := by
  by_cases h : k < N
  · rw [if_pos h, pr_map (rng0_get h)]
  · rw [if_neg h, pr_ge (by rw [List.length_map, rngT0_length]; omega)]
end
end Pd
set_option maxHeartbeats 2000000
namespace Pd
open PySem PySem.Spec L2
section
variable {x y : Po2} {m n e m' n' e' : Nat} {W V : Int}
theorem P2V.tight (h : P2V x m n W e) (hb : Ps.Bd m' (pv2 x)) : P2V x m' n W e := by
  refine ⟨⟨?_, h.rv.po, h.rv.ne, h.rv.w, h.rv.val⟩, h.last⟩
  rcases Nat.lt_or_ge m' x.rows.length with q | q
  · exact absurd (hb (x.rows.length - 1) (by omega)) (h.last (by omega))
  · exact q
end
end Pd
set_option maxHeartbeats 2000000
namespace Pd
open PySem PySem.Spec L2
def rw_ (T : List (List Int)) (i : Nat) : List Int := (T[i]?).getD []
noncomputable def tr (T : List (List Int)) (i : Nat) : Ps Rat := lv (rw_ T i)
noncomputable def ptab (T : List (List Int)) : Ps (Ps Rat) := ⟨tr T⟩
theorem rw_some {T : List (List Int)} {i : Nat} {r : List Int} (h : T[i]? = some r) : rw_ T i = r := by unfold rw_; rw [h]; rfl
theorem rw_ge {T : List (List Int)} {i : Nat} (h : T.length ≤ i) : rw_ T i = [] := by unfold rw_; rw [List.getElem?_eq_none h]; rfl
structure TS (T : List (List Int)) (m n b : Nat) : Prop where
  len : T.length ≤ m
  row : ∀ r ∈ T, LS r n b
theorem TS.up {T : List (List Int)} {m n b m' n' b' : Nat} (h : TS T m n b) (l1 : m ≤ m') (l2 : n ≤ n') (l3 : b ≤ b') : TS T m' n' b' := ⟨Nat.le_trans h.len l1, fun r hr => (h.row r hr).up l2 l3⟩
theorem TS.rw {T : List (List Int)} {m n b : Nat} (h : TS T m n b) (hb : 0 < b) (i : Nat) : LS (rw_ T i) n b := by
  by_cases hi : i < T.length
  · have e : T[i]? = some T[i] := List.getElem?_eq_getElem hi
    rw [rw_some e]
    exact h.row _ (List.getElem_mem hi)
  · rw [rw_ge (by omega)]
    exact (LS.nil hb).up (Nat.zero_le _) (Nat.le_refl _)
theorem LS.iw {xs : List Int} {n b : Nat} (h : LS xs n b) : Iw 1 b (lv xs) := fun k => ⟨co xs k, by rw [lv_cf, show ((1 : Int) : Rat) = 1 from rfl]; grind, h.c k⟩
section
variable {T : List (List Int)} {m n b : Nat} {d : Int}
end
end Pd
set_option maxHeartbeats 2000000
namespace Pd
open PySem PySem.Spec L2
section
variable {A B : List (List Int)} {m n b m' n' c : Nat}
end
end Pd
set_option maxHeartbeats 2000000
namespace Pd
open PySem PySem.Spec L2
theorem Iw.pev {W : Int} {e n s : Nat} {g : Ps Rat} {x : Int} (W0 : W ≠ 0) (h : Iw W e g) (hb : Ps.Bd n g) (hx : Sm x s) : ∃ z : Int, pev g (x : Rat) = (z : Rat) * (W : Rat)⁻¹ ∧ Sm z (e + n * (s + 1)) := by
  have h' : ∀ k, ∃ z : Int, g.cf k = (z : Rat) * (W : Rat)⁻¹ ∧ Sm z e := h
  obtain ⟨z, zz⟩ := Classical.axiomOfChoice h'
  have w := ic_ne W0
  have z0 : ∀ k, n ≤ k → z k = 0 := fun k hk => by
    have := (zz k).1
    rw [hb k hk] at this
    refine ic_eq ?_
    show (z k : Rat) = 0
    generalize (z k : Rat) = u at *
    generalize (W : Rat) = v at *
    grind
  have eg : g = Ps.c ((W : Rat)⁻¹) * lv (mkL n z) := Ps.ext fun k => by
    rw [Ps.c_mul, (zz k).1, lv_cf, mkL_co z0]; grind
  refine ⟨hz x (mkL n z), ?_, ?_⟩
  · rw [eg, pev_mul (Pl.c _) (Pl.lv _), pev_c, pev_lv]
    show _ = (hz x (mkL n z) : Rat) * _
    grind
  · have := hz_sm hx (xs := mkL n z) (b := e) fun k => by rw [mkL_co z0]; exact (zz k).2
    rw [mkL_len] at this
    exact this
noncomputable def pe1 (x : Rat) (f : Ps (Ps Rat)) : Ps Rat := ⟨fun i => pev (f.cf i) x⟩
def Pl2 (f : Ps (Ps Rat)) : Prop := (∃ m, Ps.Bd m f) ∧ ∀ i, Pl (f.cf i)
theorem Pl2.c {g : Ps Rat} (h : Pl g) : Pl2 (Ps.c g) := ⟨⟨1, Ps.Bd.c g⟩, fun i => by
  rw [Ps.c_cf]
  split
  · exact h
  · exact Pl.zero⟩
theorem Pl2.add {f g : Ps (Ps Rat)} (hf : Pl2 f) (hg : Pl2 g) : Pl2 (f + g) := ⟨let ⟨m, a⟩ := hf.1; let ⟨n, b⟩ := hg.1; ⟨max m n, (a.up (by omega)).add (b.up (by omega))⟩, fun i => (hf.2 i).add (hg.2 i)⟩
theorem Pl2.neg {f : Ps (Ps Rat)} (hf : Pl2 f) : Pl2 (-f) := ⟨let ⟨m, a⟩ := hf.1; ⟨m, a.neg⟩, fun i => (hf.2 i).neg⟩
theorem Pl2.sub {f g : Ps (Ps Rat)} (hf : Pl2 f) (hg : Pl2 g) : Pl2 (f - g) := ⟨let ⟨m, a⟩ := hf.1; let ⟨n, b⟩ := hg.1; ⟨max m n, (a.up (by omega)).sub (b.up (by omega))⟩, fun i => (hf.2 i).sub (hg.2 i)⟩
theorem cv_pl : ∀ (I : Nat) (F G : Nat → Ps Rat), (∀ i, Pl (F i)) → (∀ i, Pl (G i)) → Pl (Ps.cv F G I)
  | 0, F, G, hF, hG => (hF 0).mul (hG 0)
  | I + 1, F, G, hF, hG => ((hF 0).mul (hG (I + 1))).add (cv_pl I (Ps.sh F) G (fun i => hF (i + 1)) hG)
theorem Pl2.mul {f g : Ps (Ps Rat)} (hf : Pl2 f) (hg : Pl2 g) : Pl2 (f * g) := ⟨let ⟨m, a⟩ := hf.1; let ⟨n, b⟩ := hg.1; ⟨_, a.mul b⟩, fun I => cv_pl I _ _ hf.2 hg.2⟩
noncomputable def v2 (f : Ps (Ps Rat)) (x y : Rat) : Rat := pev (pe1 x f) y
section
variable {p : Po2} {m n e s : Nat} {W x : Int}
end
end Pd
set_option maxHeartbeats 2000000
namespace Pd
open PySem PySem.Spec L2
def P2 (x : Po2) (m n e : Nat) : Prop := ∃ W, P2V x m n W e
theorem P2.up {x : Po2} {m n e m' n' e' : Nat} (h : P2 x m n e) (l1 : m ≤ m') (l2 : n ≤ n') (l3 : e ≤ e') : P2 x m' n' e' := let ⟨W, a⟩ := h; ⟨W, a.up l1 l2 l3⟩
theorem P2V.p2 {x : Po2} {m n e : Nat} {W : Int} (h : P2V x m n W e) : P2 x m n e := ⟨W, h⟩
theorem P2.len {x : Po2} {m n e : Nat} (h : P2 x m n e) : x.rows.length ≤ m := let ⟨_, a⟩ := h; a.rv.len
theorem P2.ep {x : Po2} {m n e : Nat} (h : P2 x m n e) : 0 < e := let ⟨_, a⟩ := h; a.rv.ep
section
variable {rows : List Po} {m n e t : Nat} {W k : Int} {st : Fr}
end
end Pd
set_option maxHeartbeats 2000000
namespace Pd
open PySem PySem.Spec L2
section
variable {T : List (List Int)} {m n b : Nat} {d : Int}
end
section
variable {p : Po} {n b : Nat}
end
end Pd
set_option maxHeartbeats 2000000
namespace Pd
open PySem PySem.Spec L2
def lin (a b : Int) : Ps Rat := lv [b, a]
structure Prt (P : List KV) (T : List (List Int)) (nu de : Int) (c r z : Nat) : Prop where
  eq : P = [KV.ll T, KV.i nu, KV.i de, KV.i c, KV.i r, KV.i z]
  ts : TS T 3 2 3
  nz : ptab T ≠ 0
  nu0 : nu ≠ 0
  nuS : Sm nu 6
  de1 : 1 ≤ de
  deS : Sm de 6
  c1 : 1 ≤ c
  c3 : c ≤ 3
  r3 : r ≤ 3
  z3 : z ≤ 3
section
variable {P : List KV} {T : List (List Int)} {nu de : Int} {c r z : Nat}
theorem Prt.g0 (h : Prt P T nu de c r z) : inR P (0 : Int) ∧ gt P (0 : Int) = KV.ll T := by rw [h.eq]; exact ⟨inR_nat (k := 0) (by simp), rfl⟩
theorem Prt.g1 (h : Prt P T nu de c r z) : inR P (1 : Int) ∧ gt P (1 : Int) = KV.i nu := by rw [h.eq]; exact ⟨inR_nat (k := 1) (by simp), rfl⟩
theorem Prt.g2 (h : Prt P T nu de c r z) : inR P (2 : Int) ∧ gt P (2 : Int) = KV.i de := by rw [h.eq]; exact ⟨inR_nat (k := 2) (by simp), rfl⟩
theorem Prt.g3 (h : Prt P T nu de c r z) : inR P (3 : Int) ∧ gt P (3 : Int) = KV.i (c : Int) := by rw [h.eq]; exact ⟨inR_nat (k := 3) (by simp), rfl⟩
theorem Prt.g4 (h : Prt P T nu de c r z) : inR P (4 : Int) ∧ gt P (4 : Int) = KV.i (r : Int) := by rw [h.eq]; exact ⟨inR_nat (k := 4) (by simp), rfl⟩
end
end Pd
set_option maxHeartbeats 2000000
namespace Pd
open PySem PySem.Spec L2
section
variable {P : List KV} {T : List (List Int)} {nu de : Int} {c r z : Nat} {n k : Int} {s : Nat}
end
end Pd
set_option maxHeartbeats 2000000
namespace Pd
open PySem PySem.Spec L2
section
variable {T : List (List Int)} {nu de : Int} {c r z : Nat} {S : Bs}
end
end Pd
set_option maxHeartbeats 2000000
namespace Pd
open PySem PySem.Spec L2
section
variable {T : List (List Int)} {nu de : Int} {c r z n k : Nat} {S : Bs}
theorem num_fr {m : Int} {b : Nat} (h : Sm m b) : v_Fraction_init m 1 ∧ FrS (q_Fraction_init m 1) b ∧ fv (q_Fraction_init m 1) = (m : Rat) := by
  obtain ⟨v, s, e⟩ := frac_mk (n := m) (d := 1) (b := b) (by decide) h (one_sm h.pos)
  exact ⟨v, s, by rw [e, show ((1 : Int) : Rat) = 1 from rfl]; grind⟩
end
end Pd
set_option maxHeartbeats 2000000
namespace Pd
open PySem PySem.Spec L2
section
variable {T : List (List Int)} {nu de : Int} {c r z t : Nat} {S : Bs}
end
end Pd
set_option maxHeartbeats 2000000
namespace Pd
open PySem PySem.Spec L2
def xm (n : Nat) : Ps Rat := ⟨fun k => if k = n then 1 else 0⟩
theorem xm_zero : xm 0 = 1 := Ps.ext fun k => by
  show (if k = 0 then (1 : Rat) else 0) = (Ps.c (1 : Rat)).cf k
  rw [Ps.c_cf]
theorem xm_succ (n : Nat) : xm (n + 1) = Ps.X * xm n := Ps.ext fun k => by
  cases k with
  | zero =>
    rw [Ps.X_zero]
    show (if 0 = n + 1 then (1 : Rat) else 0) = 0
    rw [if_neg (by omega)]
  | succ k =>
    rw [Ps.X_succ]
    show (if k + 1 = n + 1 then (1 : Rat) else 0) = if k = n then 1 else 0
    by_cases q : k = n
    · rw [if_pos q, if_pos (by omega)]
    · rw [if_neg q, if_neg (by omega)]
theorem xm_add (a : Nat) : ∀ b, xm (a + b) = xm a * xm b
  | 0 => by rw [xm_zero, Nat.add_zero]; grind
  | b + 1 => by rw [← Nat.add_assoc, xm_succ, xm_succ, xm_add a b]; grind
theorem xm_bd (n : Nat) : Ps.Bd (n + 1) (xm n) := fun k hk => if_neg (by omega)
def TP (d : Nat) (a β : Rat) (f : Ps Rat) : Prop := Ps.Bd d (Ps.X * f - Ps.c a * (Ps.X + Ps.c β) * xm d)
theorem tp_A (d : Nat) (a β : Rat) : Ps.Bd (d + 2) (Ps.c a * (Ps.X + Ps.c β) * xm d) := by
  have h1 : Ps.Bd 2 (Ps.c a * (Ps.X + Ps.c β)) := Ps.Bd.cmul a (Ps.Bd.add (by
    have := Ps.Bd.Xmul (Ps.Bd.c (1 : Rat))
    have e : Ps.X * Ps.c (1 : Rat) = Ps.X := by
      have : Ps.c (1 : Rat) = 1 := rfl
      rw [this]; grind
    rw [e] at this
    exact this) ((Ps.Bd.c β).up (by decide)))
  exact (h1.mul (xm_bd d)).up (by omega)
theorem TP.mul {d e : Nat} {a β a' β' : Rat} {f g : Ps Rat} (hf : TP d a β f) (hg : TP e a' β' g) : TP (d + e) (a * a') (β + β') (f * g) := by
  have A := tp_A d a β
  have B := tp_A e a' β'
  have id1 : Ps.X * (Ps.X * (f * g) - Ps.c (a * a') * (Ps.X + Ps.c (β + β')) * xm (d + e)) = Ps.c a * (Ps.X + Ps.c β) * xm d * (Ps.X * g - Ps.c a' * (Ps.X + Ps.c β') * xm e) + (Ps.X * f - Ps.c a * (Ps.X + Ps.c β) * xm d) * (Ps.c a' * (Ps.X + Ps.c β') * xm e) + (Ps.X * f - Ps.c a * (Ps.X + Ps.c β) * xm d) * (Ps.X * g - Ps.c a' * (Ps.X + Ps.c β') * xm e) + Ps.c (a * β * a' * β') * xm (d + e) := by
    rw [xm_add, Ps.c_mulc a a', Ps.c_add β β', Ps.c_mulc (a * β * a') β', Ps.c_mulc (a * β) a', Ps.c_mulc a β]
    generalize Ps.c a = x1
    generalize Ps.c β = x2
    generalize Ps.c a' = x3
    generalize Ps.c β' = x4
    generalize xm d = x5
    generalize xm e = x6
    generalize (Ps.X : Ps Rat) = x7
    grind
  have hf' : Ps.Bd d (Ps.X * f - Ps.c a * (Ps.X + Ps.c β) * xm d) := hf
  have hg' : Ps.Bd e (Ps.X * g - Ps.c a' * (Ps.X + Ps.c β') * xm e) := hg
  have b1 := (A.mul hg').up (show _ ≤ d + e + 1 by omega)
  have b2 := (hf'.mul B).up (show _ ≤ d + e + 1 by omega)
  have b3 := (hf'.mul hg').up (show _ ≤ d + e + 1 by omega)
  have b4 := (Ps.Bd.cmul (a * β * a' * β') (xm_bd (d + e)))
  have all := ((b1.add b2).add b3).add b4
  rw [← id1] at all
  intro k hk
  have := all (k + 1) (by omega)
  rw [Ps.X_succ] at this
  exact this
theorem TP.one : TP 0 1 0 (1 : Ps Rat) := by
  have : Ps.X * (1 : Ps Rat) - Ps.c 1 * (Ps.X + Ps.c 0) * xm 0 = 0 := by
    have e1q : Ps.c (1 : Rat) = 1 := rfl
    have e2q : Ps.c (0 : Rat) = 0 := rfl
    rw [xm_zero, e1q, e2q]; grind
  show Ps.Bd 0 _
  rw [this]; exact Ps.Bd.zero
theorem TP.top {d : Nat} {a β : Rat} {f : Ps Rat} (h : TP d a β f) : f.cf d = a ∧ (Ps.X * f).cf d = a * β := by
  have ex : ∀ k, (Ps.c a * (Ps.X + Ps.c β) * xm d).cf k = (if k = d + 1 then a else 0) + if k = d then a * β else 0 := fun k => by
    have e : Ps.c a * (Ps.X + Ps.c β) * xm d = Ps.c a * xm (d + 1) + Ps.c (a * β) * xm d := by
      rw [xm_succ, Ps.c_mulc]; grind
    rw [e, Ps.add_cf, Ps.c_mul, Ps.c_mul]
    show a * (if k = d + 1 then (1 : Rat) else 0) + a * β * (if k = d then (1 : Rat) else 0) = _
    split <;> split <;> grind
  have h1 := h (d + 1) (by omega)
  have h2 := h d (Nat.le_refl _)
  rw [Ps.sub_cf, ex] at h1 h2
  rw [Ps.X_succ, if_pos rfl, if_neg (by omega)] at h1
  rw [if_neg (by omega), if_pos rfl] at h2
  constructor
  · grind
  · grind
noncomputable def sv : List Int → Ps Rat
  | [] => 0
  | a :: t => Ps.c (a : Rat) + lin 1 1 * sv t
end Pd
set_option maxHeartbeats 2000000
namespace Pd
open PySem PySem.Spec L2
def orw (o : Opr) : Po2 := ⟨o.coefs⟩
def OPV (o : Opr) (m n : Nat) (W : Int) (e : Nat) : Prop := P2V (orw o) m n W e
noncomputable def opv (o : Opr) : Ps (Ps Rat) := pv2 (orw o)
section
variable {o o' : Opr} {rows : List Po} {m n e m' n' e' : Nat} {W V : Int}
theorem oinit_spec (h : RV rows m n W e) : v_Operator_init rows ∧ OPV (q_Operator_init rows) m n W e ∧ opv (q_Operator_init rows) = ⟨pr rows⟩ := init2_spec h
end
theorem den_all {n b : Nat} (hb : 0 < b) : ∀ (rows : List Po), (∀ p ∈ rows, PoS p n b) → ∃ W : Int, W ≠ 0 ∧ Sm W (1 + rows.length * b) ∧ ∀ p ∈ rows, Iw W (1 + (rows.length + 1) * b) (pv p)
  | [], _ => ⟨1, by decide, one_sm (by omega), fun p hp => by simp at hp⟩
  | p :: rows, h => by
    obtain ⟨W, w0, ws, wi⟩ := den_all hb rows fun q hq => h q (List.mem_cons_of_mem _ hq)
    have hp := h p (List.mem_cons_self ..)
    have m1 : (rows.length + 1) * b = rows.length * b + b := Nat.succ_mul _ _
    have m2 : (rows.length + 1 + 1) * b = rows.length * b + b + b := by rw [Nat.succ_mul, Nat.succ_mul]
    refine ⟨W * p.den, Int.mul_ne_zero w0 hp.ne', ws.mulUp hp.d (by rw [List.length_cons]; omega), fun q hq => ?_⟩
    rw [List.length_cons, m2]
    rcases List.mem_cons.mp hq with e | e
    · rw [e]
      have := hp.toIw.mulW ws w0 (Nat.le_refl _)
      rw [Int.mul_comm W]
      exact this.up (by omega)
    · exact ((wi q e).mulW hp.d hp.ne' (Nat.le_refl _)).up (by omega)
theorem rv_all {rows : List Po} {m n b : Nat} (hb : 0 < b) (h : ∀ p ∈ rows, PoS p n b) (hl : rows.length ≤ m) : ∃ W, RV rows m n W (1 + (m + 1) * b) := by
  obtain ⟨W, w0, ws, wi⟩ := den_all hb rows h
  have m1 : rows.length * b ≤ m * b := Nat.mul_le_mul_right _ hl
  have m2 : (rows.length + 1) * b ≤ (m + 1) * b := Nat.mul_le_mul_right _ (by omega)
  have m3 : (m + 1) * b = m * b + b := Nat.succ_mul _ _
  refine ⟨W, hl, fun p hp => ⟨b, h p hp⟩, w0, ws.up (by omega), fun i => ?_⟩
  by_cases hi : i < rows.length
  · have e : rows[i]? = some rows[i] := List.getElem?_eq_getElem hi
    rw [pr_some e]
    exact (wi _ (List.getElem_mem hi)).up (by omega)
  · rw [pr_ge (by omega)]; exact Iw.zero (by omega)
end Pd
set_option maxHeartbeats 2000000
namespace Pd
open PySem PySem.Spec L2
noncomputable def cv_ (o : Opr) (i : Nat) (x : Int) : Rat := pev (pr o.coefs i) (x : Rat)
theorem cv_ge {o : Opr} {i : Nat} (h : o.coefs.length ≤ i) (x : Int) : cv_ o i x = 0 := by unfold cv_; rw [pr_ge h, pev_zero]
def tws (a b : Nat → Int → Rat) : Nat → Nat → Int → Rat
  | 0, _, _ => 0
  | i + 1, I, x => tws a b i I x + (if i ≤ I then a i x * b (I - i) (x + (i : Int)) else 0)
section
variable {o o' : Opr} {m n e m' n' e' : Nat} {W V : Int}
theorem omul_spec (hx : OPV o m n W e) (hy : OPV o' m' n' V e') (hn : n ≤ 100) (hn' : n' ≤ 100) (hm : m ≤ 100) (hm' : m' ≤ 100) (he : e ≤ 100000) (he' : e' ≤ 100000) : v_Operator_mul o o' ∧ ∃ U, OPV (q_Operator_mul o o') (m + m') (n + n') U (1 + (m + m' + 1) * (1 + m * (e + e' + 9 * n' + n + 10))) ∧ ∀ (I : Nat) (x : Int), cv_ (q_Operator_mul o o') I x = tws (cv_ o) (cv_ o') o.coefs.length I x := by
  have lx : o.coefs.length ≤ m := hx.rv.len
  have ly : o'.coefs.length ≤ m' := hy.rv.len
  obtain ⟨ev, es, ee⟩ := empty_po
  generalize hK : e + e' + 9 * n' + n + 10 = K at *
  have mk : ∀ i, i ≤ m → i * K ≤ m * K := fun i hi => Nat.mul_le_mul_right _ hi
  have mK : m * K ≤ 100 * 201110 := Nat.mul_le_mul hm (by omega)
  have zl : ((o.coefs.length : Int) + (o'.coefs.length : Int)) = ((o.coefs.length + o'.coefs.length : Nat) : Int) := by omega
  -- one row
  have inner : ∀ (i : Nat) (a : Po) (r0 : List Po), o.coefs[i]? = some a → r0.length = o.coefs.length + o'.coefs.length → (∀ p ∈ r0, PoS p (n + n') (1 + i * K)) → (∀ (I : Nat) (x : Int), pev (pr r0 I) (x : Rat) = tws (cv_ o) (cv_ o') i I x) →
      v_Operator_mul_2 o' r0 (i : Int) a ∧ (q_Operator_mul_2 o' r0 (i : Int) a).length = o.coefs.length + o'.coefs.length ∧ (∀ p ∈ q_Operator_mul_2 o' r0 (i : Int) a, PoS p (n + n') (1 + (i + 1) * K)) ∧ ∀ (I : Nat) (x : Int), pev (pr (q_Operator_mul_2 o' r0 (i : Int) a) I) (x : Rat) = tws (cv_ o) (cv_ o') (i + 1) I x := by
    intro i a r0 ha hr0 hp0 hv0
    have hi : i < o.coefs.length := (List.getElem?_eq_some_iff.mp ha).1
    have am : PoS a n (e + 1) := hx.rv.pos (by omega) (List.mem_of_getElem? ha)
    have k1 := mk (i + 1) (by omega)
    have k2 : (i + 1) * K = i * K + K := Nat.succ_mul _ _
    have si : Sm (i : Int) 7 := Sm.nat (by omega) (by omega) (by decide)
    have lp := forV_inv0 (V := fun (s3 : (List Po)) (x4 : Int × Po) => v_Operator_mul_3 o' s3 (i : Int) a x4.1 x4.2) (f := fun (s3 : (List Po)) (x4 : Int × Po) => q_Operator_mul_3 o' s3 (i : Int) a x4.1 x4.2) (xs := enT o'.coefs) (s := r0)
      (fun j r => r.length = o.coefs.length + o'.coefs.length ∧ (∀ I : Nat, I < r.length → PoS (gt r (I : Int)) (n + n') (if i ≤ I ∧ I < i + j then 1 + (i + 1) * K else 1 + i * K)) ∧ ∀ (I : Nat) (x : Int), pev (pr r I) (x : Rat) = tws (cv_ o) (cv_ o') i I x + (if i ≤ I ∧ I < i + j then cv_ o i x * cv_ o' (I - i) (x + (i : Int)) else 0)) ⟨hr0, fun I hI => by
        rw [if_neg (by omega)]; exact hp0 _ (gt_memG hI).1, fun I x => by rw [if_neg (by omega), hv0]; grind⟩ fun j xx r hxx ⟨h1, h2, h3⟩ => by
        obtain ⟨x1, b⟩ := xx
        obtain ⟨e1q, e2q⟩ := enT_get hxx
        dsimp only at e1q e2q
        subst e1q
        have hj : j < o'.coefs.length := (List.getElem?_eq_some_iff.mp e2q).1
        have bm : PoS b n' (e' + 1) := hy.rv.pos (by omega) (List.mem_of_getElem? e2q)
        have q1 : (7 + 1) * n' * n' ≤ (8 * 100) * 100 := Nat.mul_le_mul (by omega) hn'
        obtain ⟨sv, ss, sh⟩ := shd_po bm si (by omega) (by omega)
        obtain ⟨v1, s1, m1⟩ := mul_spec am ss (by omega) (by omega) (by omega) (by omega)
        have hij : i + j < r.length := by omega
        obtain ⟨g1, g2⟩ := gt_memG hij
        have sB := h2 (i + j) hij
        rw [if_neg (by omega)] at sB
        obtain ⟨v3, s3, m3⟩ := add_spec sB s1 (by omega) (by omega) (by omega) (by omega)
        have s3' : PoS (q_Poly_add (gt r ((i + j : Nat) : Int)) (q_Poly_mul a (q_Poly_shifted b (i : Int)))) (n + n') (1 + (i + 1) * K) := s3.up (by omega) (by omega)
        have E : q_Operator_mul_3 o' r (i : Int) a (j : Int) b = r.set (i + j) (q_Poly_add (gt r ((i + j : Nat) : Int)) (q_Poly_mul a (q_Poly_shifted b (i : Int)))) := by
          show setT r ((i : Int) + (j : Int)) (q_Poly_add (gt r ((i : Int) + (j : Int))) (q_Poly_mul a (q_Poly_shifted b (i : Int)))) = _
          rw [show (i : Int) + (j : Int) = ((i + j : Nat) : Int) by omega]
          exact setT_nat hij
        refine ⟨?_, ?_, fun I hI => ?_, fun I x => ?_⟩
        · show inR r ((i : Int) + (j : Int)) ∧ v_Poly_shifted b (i : Int) ∧ v_Poly_mul a (q_Poly_shifted b (i : Int)) ∧ v_Poly_add (gt r ((i : Int) + (j : Int))) (q_Poly_mul a (q_Poly_shifted b (i : Int))) ∧ inR r ((i : Int) + (j : Int))
          rw [show (i : Int) + (j : Int) = ((i + j : Nat) : Int) by omega]
          exact ⟨inR_nat hij, sv, v1, v3, inR_nat hij⟩
        · show (q_Operator_mul_3 o' r (i : Int) a (j : Int) b).length = _
          rw [E, List.length_set, h1]
        · replace hI : I < (q_Operator_mul_3 o' r (i : Int) a (j : Int) b).length := hI
          show PoS (gt (q_Operator_mul_3 o' r (i : Int) a (j : Int) b) (I : Int)) _ _
          rw [E, List.length_set] at hI
          rw [E]
          by_cases q : I = i + j
          · subst q
            rw [if_pos (by omega), gtN (x := q_Poly_add (gt r ((i + j : Nat) : Int)) (q_Poly_mul a (q_Poly_shifted b (i : Int)))) (by rw [List.getElem?_set_self hij])]
            exact s3'
          · have : (r.set (i + j) (q_Poly_add (gt r ((i + j : Nat) : Int)) (q_Poly_mul a (q_Poly_shifted b (i : Int)))))[I]? = some (gt r (I : Int)) := by
              rw [List.getElem?_set_ne (by omega)]
              exact (gt_memG hI).2
            rw [gtN this]
            have old := h2 I hI
            by_cases q2 : i ≤ I ∧ I < i + j
            · rw [if_pos q2] at old
              rw [if_pos (by omega)]; exact old
            · rw [if_neg q2] at old
              rw [if_neg (by omega)]; exact old
        · show pev (pr (q_Operator_mul_3 o' r (i : Int) a (j : Int) b) I) (x : Rat) = _
          rw [E, pr_set hij]
          by_cases q : I = i + j
          · subst q
            have h4 := h3 (i + j) x
            rw [pr_some g2, if_neg (by omega)] at h4
            rw [if_pos rfl, m3, m1, pev_add sB.pl (am.pl.mul ss.pl), pev_mul am.pl ss.pl, h4, if_pos (by omega), show i + j - i = j by omega, sh x]
            unfold cv_
            rw [pr_some ha, pr_some e2q, Int.add_comm x]
            grind
          · rw [if_neg q, h3 I x]
            by_cases q2 : i ≤ I ∧ I < i + j
            · rw [if_pos q2, if_pos (by omega)]
            · rw [if_neg q2, if_neg (by omega)]
    obtain ⟨v, h1, h2, h3⟩ := lp
    rw [show (enT o'.coefs).length = o'.coefs.length from enN_length _ _] at h2 h3
    refine ⟨v, h1, fun p hp => ?_, fun I x => ?_⟩
    · obtain ⟨I, hI⟩ := List.getElem?_of_mem hp
      have il := (List.getElem?_eq_some_iff.mp hI).1
      have hg : gt (q_Operator_mul_2 o' r0 (i : Int) a) (I : Int) = p := gtN hI
      have t : PoS (gt (q_Operator_mul_2 o' r0 (i : Int) a) (I : Int)) (n + n') (if i ≤ I ∧ I < i + o'.coefs.length then 1 + (i + 1) * K else 1 + i * K) := h2 I il
      rw [hg] at t
      split at t
      · exact t
      · exact t.up (Nat.le_refl _) (by omega)
    · refine (h3 I x).trans ?_
      show _ = tws (cv_ o) (cv_ o') i I x + (if i ≤ I then cv_ o i x * cv_ o' (I - i) (x + (i : Int)) else 0)
      congr 1
      by_cases q : i ≤ I
      · rw [if_pos q]
        by_cases q2 : I < i + o'.coefs.length
        · rw [if_pos ⟨q, q2⟩]
        · have hz0 : cv_ o' (I - i) (x + (i : Int)) = 0 := cv_ge (by omega) _
          rw [if_neg (fun w => q2 w.2), hz0]; grind
      · rw [if_neg q, if_neg (fun w => q w.1)]
  have outer := forV_inv0 (V := fun (s7 : (List Po)) (x8 : Int × Po) => v_Operator_mul_2 o' s7 x8.1 x8.2) (f := fun (s7 : (List Po)) (x8 : Int × Po) => q_Operator_mul_2 o' s7 x8.1 x8.2) (xs := enT o.coefs) (s := (rngT 0 ((o.coefs.length + o'.coefs.length : Nat) : Int)).map fun (x1 : Int) => q_Poly_init ([] : List Int) (1 : Int))
    (fun i r => r.length = o.coefs.length + o'.coefs.length ∧ (∀ p ∈ r, PoS p (n + n') (1 + i * K)) ∧ ∀ (I : Nat) (x : Int), pev (pr r I) (x : Rat) = tws (cv_ o) (cv_ o') i I x) ⟨by rw [List.length_map, rngT0_length], fun p hp => by
      obtain ⟨z, _, rfl⟩ := List.mem_map.mp hp
      exact es.up (Nat.zero_le _) (by omega), fun I x => by
      rw [pr_rng]
      split
      · rw [ee, pev_zero]; rfl
      · rw [pev_zero]; rfl⟩ fun i xx r hxx ⟨h1, h2, h3⟩ => by
      obtain ⟨x1, a⟩ := xx
      obtain ⟨e1q, e2q⟩ := enT_get hxx
      dsimp only at e1q e2q
      subst e1q
      exact inner i a r e2q h1 h2 h3
  rw [show (enT o.coefs).length = o.coefs.length from enN_length _ _] at outer
  obtain ⟨v, h1, h2, h3⟩ := outer
  have k3 := mk o.coefs.length lx
  generalize hR : (enT o.coefs).foldl (fun (s7 : (List Po)) (x8 : Int × Po) => q_Operator_mul_2 o' s7 x8.1 x8.2) ((rngT 0 ((o.coefs.length + o'.coefs.length : Nat) : Int)).map fun (x1 : Int) => q_Poly_init ([] : List Int) (1 : Int)) = R at *
  obtain ⟨U, rv⟩ := rv_all (rows := R) (m := m + m') (n := n + n') (b := 1 + m * K) (by omega) (fun p hp => (h2 p hp).up (Nat.le_refl _) (by omega)) (by omega)
  obtain ⟨iv, ip, ie⟩ := oinit_spec rv
  unfold v_Operator_mul q_Operator_mul v_Operator_mul_0 q_Operator_mul_0 v_Operator_mul_1 q_Operator_mul_1 q_Operator_mul_4 v_Operator_mul_5 q_Operator_mul_5
  rw [zl, hR]
  refine ⟨⟨rOk_nat (by omega), fun _ _ => ev, line_le (by rw [rngT0_length]; omega), v, iv⟩, U, ip, fun I x => ?_⟩
  rw [← h3 I x]
  have := congrArg (fun f : Ps (Ps Rat) => f.cf I) ie
  replace this : pr (q_Operator_init R).coefs I = pr R I := this
  unfold cv_
  rw [this]
end
def apl (a : Nat → Int → Rat) (u : Nat → Rat) (x : Int) : Nat → Rat
  | 0 => 0
  | j + 1 => apl a u x j + a j x * u j
theorem apply_spec {o : Opr} {m n e b s : Nat} {W : Int} {vs : List Fr} {N : Nat} (hx : OPV o m n W e) (hn : n ≤ 100) (hm : m ≤ 100) (he : e ≤ 100000) (hb : b ≤ 100000) (hN : Sm (N : Int) s) (hs : s ≤ 1000) (hl : N + o.coefs.length ≤ vs.length) (hv : ∀ v ∈ vs, FrS v b) : v_Operator_apply_at o vs (N : Int) ∧ FrS (q_Operator_apply_at o vs (N : Int)) (1 + m * (e + 1 + n * (s + 1) + b + 1)) ∧ fv (q_Operator_apply_at o vs (N : Int)) = apl (cv_ o) (fun j => fv (gt vs (((N + j : Nat)) : Int))) (N : Int) o.coefs.length := by
  have lx : o.coefs.length ≤ m := hx.rv.len
  obtain ⟨fv1, fs1, fe1⟩ := num_fr (m := 0) (b := 1) (Sm.zero (by decide))
  have nb : n * (s + 1) ≤ 100 * 1001 := Nat.mul_le_mul hn (by omega)
  generalize hK : e + 1 + n * (s + 1) + b + 1 = K at *
  have mk : ∀ i, i ≤ m → i * K ≤ m * K := fun i hi => Nat.mul_le_mul_right _ hi
  have mK : m * K ≤ 100 * 400000 := Nat.mul_le_mul hm (by omega)
  have lp := forV_inv0 (V := fun (s1 : Fr) (x2 : Int × Po) => v_Operator_apply_at_2 vs (N : Int) s1 x2.1 x2.2) (f := fun (s1 : Fr) (x2 : Int × Po) => q_Operator_apply_at_2 vs (N : Int) s1 x2.1 x2.2) (xs := enT o.coefs) (s := q_Fraction_init 0 1)
    (fun i t => FrS t (1 + i * K) ∧ fv t = apl (cv_ o) (fun j => fv (gt vs (((N + j : Nat)) : Int))) (N : Int) i) ⟨by rw [Nat.zero_mul]; exact fs1, by rw [fe1]; rfl⟩ fun i xx t hxx ⟨h1, h2⟩ => by
      obtain ⟨x1, p⟩ := xx
      obtain ⟨e1q, e2q⟩ := enT_get hxx
      dsimp only at e1q e2q
      subst e1q
      have hi : i < o.coefs.length := (List.getElem?_eq_some_iff.mp e2q).1
      have sp : PoS p n (e + 1) := hx.rv.pos (by omega) (List.mem_of_getElem? e2q)
      have k1 := mk (i + 1) (by omega)
      have k2 : (i + 1) * K = i * K + K := Nat.succ_mul _ _
      obtain ⟨a1, a2, a3⟩ := at_spec sp hN (by omega) (by omega) (by omega)
      have ei : (N : Int) + (i : Int) = ((N + i : Nat) : Int) := by omega
      have sv := hv _ (gt_memG (xs := vs) (k := N + i) (by omega)).1
      obtain ⟨b1, b2, b3⟩ := fmul_spec a2 sv (by omega) (by omega)
      obtain ⟨c1, c2, c3⟩ := fadd_spec h1 b2 (by omega) (by omega)
      unfold v_Operator_apply_at_2 q_Operator_apply_at_2
      dsimp only
      rw [ei]
      refine ⟨⟨a1, inR_nat (by omega), b1, c1⟩, c2.up (by omega), ?_⟩
      rw [c3, h2, b3, a3, ← pev_eq (pv_Bd sp)]
      show _ = apl (cv_ o) _ (N : Int) i + cv_ o i (N : Int) * fv (gt vs ((N + i : Nat) : Int))
      unfold cv_
      rw [pr_some e2q]
  rw [show (enT o.coefs).length = o.coefs.length from enN_length _ _] at lp
  obtain ⟨v, h1, h2⟩ := lp
  have k3 := mk o.coefs.length lx
  exact ⟨⟨fv1, v⟩, h1.up (by omega), h2⟩
end Pd
set_option maxHeartbeats 2000000
namespace Pd
open PySem PySem.Spec L2
abbrev Part := List Int × Int
structure PL (ps : List Part) (N n b : Nat) : Prop where
  len : ps.length ≤ N
  p : ∀ x ∈ ps, PtS x n b ∧ Tr x.1
theorem PL.up {ps : List Part} {N n b N' n' b' : Nat} (h : PL ps N n b) (l1 : N ≤ N') (l2 : n ≤ n') (l3 : b ≤ b') : PL ps N' n' b' := ⟨Nat.le_trans h.len l1, fun x hx => ⟨(h.p x hx).1.up l2 l3, (h.p x hx).2⟩⟩
noncomputable def ptv (ps : List Part) (i : Nat) : Ps Rat := match ps[i]? with
  | some x => pt x
  | none => 0
theorem ptv_some {ps : List Part} {i : Nat} {x : Part} (h : ps[i]? = some x) : ptv ps i = pt x := by unfold ptv; rw [h]
theorem ptv_ge {ps : List Part} {i : Nat} (h : ps.length ≤ i) : ptv ps i = 0 := by unfold ptv; rw [List.getElem?_eq_none h]
theorem ptv_pl (ps : List Part) (i : Nat) : Pl (ptv ps i) := by
  unfold ptv
  split
  · exact PtS.pl _
  · exact Pl.zero
theorem ptv_take (ps : List Part) (k i : Nat) : ptv (ps.take k) i = if i < k then ptv ps i else 0 := by
  unfold ptv
  rw [List.getElem?_take]
  by_cases h : i < k
  · rw [if_pos h, if_pos h]
  · rw [if_neg h, if_neg h]
theorem ptv_set {ps : List Part} {k i : Nat} {x : Part} (h : k < ps.length) : ptv (ps.set k x) i = if i = k then pt x else ptv ps i := by
  unfold ptv
  rw [List.getElem?_set]
  by_cases e : i = k
  · subst e; rw [if_pos rfl, if_pos h, if_pos rfl]
  · rw [if_neg (Ne.symm e), if_neg e]
def Cut (ps : List Part) : Prop := 0 < ps.length → ptv ps (ps.length - 1) ≠ 0
theorem pt_zero {x : Part} {n b : Nat} (h : PtS x n b) (t : Tr x.1) : x.1.length = 0 ↔ pt x = 0 := (pt_DL h t).zero
section
variable {ps qs : List Part} {N n b M m c : Nat}
theorem cut_spec (h : PL ps N n b) (hN : N ≤ 1000000) : v_law_cut ps ∧ PL (q_law_cut ps) N n b ∧ Cut (q_law_cut ps) ∧ (∀ i, ptv (q_law_cut ps) i = ptv ps i) ∧ (q_law_cut ps).length ≤ ps.length := by
  have hl := h.len
  have lp := forV_inv0 (V := fun (s2 : Int) (x3 : Int) => v_law_cut_2 ps s2 x3) (f := fun (s2 : Int) (x3 : Int) => q_law_cut_2 ps s2 x3) (xs := rngT 0 (ps.length : Int)) (s := 0)
    (fun i s => ∃ k : Nat, s = (k : Int) ∧ k ≤ i ∧ (∀ j, k ≤ j → j < i → ptv ps j = 0) ∧ (0 < k → ptv ps (k - 1) ≠ 0)) ⟨0, rfl, Nat.le_refl _, fun j h1 h2 => absurd h2 (Nat.not_lt_zero _), fun w => absurd w (Nat.lt_irrefl 0)⟩ fun i z s hz ⟨k, e, h1, h2, h3⟩ => by
      obtain ⟨hi, ez⟩ := rngT0_get hz
      subst ez
      subst e
      obtain ⟨g1, g2⟩ := gt_memG (xs := ps) hi
      obtain ⟨a1, a2⟩ := h.p _ g1
      refine ⟨inR_nat hi, ?_⟩
      unfold q_law_cut_2 q_law_cut_3
      have ep := ptv_some g2
      by_cases q : (gt ps (i : Int)).1.length = 0
      · rw [decide_eq_false (by omega), if_neg (by decide)]
        refine ⟨k, rfl, by omega, fun j j1 j2 => ?_, h3⟩
        by_cases w : j = i
        · subst w; rw [ep]; exact (pt_zero a1 a2).mp q
        · exact h2 j j1 (by omega)
      · rw [decide_eq_true (by omega), if_pos rfl]
        refine ⟨i + 1, by omega, Nat.le_refl _, fun j j1 j2 => by omega, fun _ => ?_⟩
        rw [Nat.add_sub_cancel, ep]
        exact fun w => q ((pt_zero a1 a2).mpr w)
  rw [rngT0_length] at lp
  obtain ⟨v, k, e, h1, h2, h3⟩ := lp
  have E : q_law_cut ps = ps.take k := by
    unfold q_law_cut q_law_cut_0 q_law_cut_1 q_law_cut_5 q_law_cut_4
    rw [e]
    exact cut_take h1
  have vals : ∀ i, ptv (ps.take k) i = ptv ps i := fun i => by
    rw [ptv_take]
    split
    · rfl
    · by_cases w : i < ps.length
      · exact (h2 i (by omega) w).symm
      · exact (ptv_ge (by omega)).symm
  rw [E]
  have lt : (ps.take k).length = k := by rw [List.length_take, Nat.min_eq_left h1]
  refine ⟨⟨rOk_nat (by omega), v⟩, ⟨by rw [lt]; omega, fun x hx => h.p x (List.mem_of_mem_take hx)⟩, fun w => ?_, vals, by rw [lt]; exact h1⟩
  rw [lt] at w ⊢
  rw [vals]
  exact h3 w
theorem len_eq {Q : Opr} {W : Int} {e : Nat} (h : OPV Q N n W e) (hc : Cut ps) (cf : ∀ i, pr Q.coefs i = ptv ps i) : Q.coefs.length = ps.length := by
  rcases Nat.lt_trichotomy Q.coefs.length ps.length with w | w | w
  · exact absurd (by rw [← cf, pr_ge (by omega)]) (hc (by omega))
  · exact w
  · exfalso
    refine h.last (by show 0 < Q.coefs.length; omega) ?_
    show pr Q.coefs (Q.coefs.length - 1) = 0
    rw [cf, ptv_ge (by omega)]
theorem lop_spec (h : PL ps N n b) (hb : 0 < b) (hN : N ≤ 1000) (hn : n ≤ 100000) : v_law_operator ps ∧ (∃ W, OPV (q_law_operator ps) N n W (1 + (N + 1) * b)) ∧ (∀ i, pr (q_law_operator ps).coefs i = ptv ps i) ∧ (Cut ps → (q_law_operator ps).coefs.length = ps.length) := by
  have hl := h.len
  have po : ∀ x ∈ ps, v_law_poly x ∧ PoS (q_law_poly x) n b ∧ pv (q_law_poly x) = pt x := fun x hx => lpoly_spec (h.p x hx).1 (by omega)
  obtain ⟨W, rv⟩ := rv_all (m := N) (n := n) hb (rows := ps.map fun (x1 : (List Int) × Int) => q_law_poly x1) (fun q hq => by
    obtain ⟨x, hx, rfl⟩ := List.mem_map.mp hq
    exact (po x hx).2.1) (by rw [List.length_map]; exact hl)
  obtain ⟨iv, ip, ie⟩ := oinit_spec rv
  have cf : ∀ i, pr (q_Operator_init (ps.map fun (x1 : (List Int) × Int) => q_law_poly x1)).coefs i = ptv ps i := fun i => by
    have := congrArg (fun f : Ps (Ps Rat) => f.cf i) ie
    refine Eq.trans this ?_
    show pr (ps.map fun (x1 : (List Int) × Int) => q_law_poly x1) i = _
    by_cases w : i < ps.length
    · have e : ps[i]? = some ps[i] := List.getElem?_eq_getElem w
      rw [pr_map e, ptv_some e, (po _ (List.getElem_mem w)).2.2]
    · rw [pr_ge (by rw [List.length_map]; omega), ptv_ge (by omega)]
  exact ⟨⟨fun x hx => (po x hx).1, line_le (by omega), iv⟩, ⟨W, ip⟩, cf, fun hc => len_eq ip hc cf⟩
theorem tr_of_po {p : Po} {n b : Nat} (h : PoS p n b) : Tr p.coefs := fun w => h.last w
theorem read_po {p : Po} (h : PoS p n b) (hn : n ≤ 1000000) : v_law_read p ∧ q_law_read p = some (p.coefs, p.den) ∧ PtS (p.coefs, p.den) n b ∧ pt (p.coefs, p.den) = pv p := by
  obtain ⟨vt, et⟩ := ltr_spec (xs := p.coefs) (by have := h.len; omega)
  have etr : trim p.coefs = p.coefs := tr_ext (trim_tr _) (tr_of_po h) fun k => by rw [co_trim]
  have e7 : q_law_read_7 p = .nx () := (forX_all (V := fun _ _ => True) fun i x hx => ⟨trivial, rfl⟩).2
  have hd : decide (p.den < 1) = false := decide_eq_false (by have := h.pos; omega)
  have hw : q_law_is_whole p.den = true := rfl
  refine ⟨?_, ?_, ⟨h.ls, h.d, h.ne'⟩, Ps.ext fun k => ?_⟩
  · unfold v_law_read v_law_read_0 v_law_read_2 v_law_read_4 v_law_read_8
    exact fun _ _ _ _ => vt
  · unfold q_law_read q_law_read_0 q_law_read_2 q_law_read_4 q_law_read_8
    rw [e7, hd, hw, et, etr]; rfl
  · rw [pt_cf]
    show _ = (co p.coefs k : Rat) / (p.den : Rat)
    rw [Rat.div_def]; grind
theorem readop_spec {Q : Opr} {W : Int} {e : Nat} (h : OPV Q N n W e) (hn : n ≤ 1000000) (hN : N ≤ 1000000) : (∀ x3 ∈ Q.coefs, v_law_read x3) ∧ (Q.coefs.map fun (x3 : Po) => q_law_read x3) = Q.coefs.map (fun p => some (p.coefs, p.den)) ∧ v_law_cut_x2 (Q.coefs.map fun p => some (p.coefs, p.den)) ∧ (q_law_cut_x2 (Q.coefs.map fun p => some (p.coefs, p.den))).length = Q.coefs.length := by
  have hl : Q.coefs.length ≤ N := h.rv.len
  have po : ∀ p ∈ Q.coefs, PoS p n (e + 1) := fun p hp => h.rv.pos hn hp
  refine ⟨fun p hp => (read_po (po p hp) hn).1, List.map_congr_left fun p hp => (read_po (po p hp) hn).2.1, ?_⟩
  have ga : ∀ i : Nat, i < Q.coefs.length → gt (Q.coefs.map fun p => some (p.coefs, p.den)) (i : Int) = some ((gt Q.coefs (i : Int)).coefs, (gt Q.coefs (i : Int)).den) := fun i hi => by
    refine gtN ?_
    rw [List.getElem?_map, (gt_memG hi).2]; rfl
  have lm : (Q.coefs.map fun p => (some (p.coefs, p.den) : Option Part)).length = Q.coefs.length := List.length_map ..
  have lp := forV_inv0 (V := fun (s2 : Int) (x3 : Int) => v_law_cut_x2_2 (Q.coefs.map fun p => some (p.coefs, p.den)) s2 x3) (f := fun (s2 : Int) (x3 : Int) => q_law_cut_x2_2 (Q.coefs.map fun p => some (p.coefs, p.den)) s2 x3) (xs := rngT 0 (Q.coefs.length : Int)) (s := 0)
    (fun i s => 0 ≤ s ∧ s ≤ i ∧ (i = Q.coefs.length → s = i)) ⟨Int.le_refl _, Int.le_refl _, fun w => rfl⟩ fun i z s hz ⟨h1, h2, h3⟩ => by
      obtain ⟨hi, ez⟩ := rngT0_get hz
      subst ez
      refine ⟨⟨inR_nat (by rw [lm]; exact hi), by rw [ga i hi]; rfl⟩, ?_⟩
      unfold q_law_cut_x2_2 q_law_cut_x2_3
      rw [ga i hi]
      show 0 ≤ (if decide (((gt Q.coefs (i : Int)).coefs.length : Int) > 0) = true then (i : Int) + 1 else s) ∧ _
      by_cases q : 0 < (gt Q.coefs (i : Int)).coefs.length
      · rw [decide_eq_true (by omega), if_pos rfl]
        show 0 ≤ (i : Int) + 1 ∧ (if decide (((gt Q.coefs (i : Int)).coefs.length : Int) > 0) = true then (i : Int) + 1 else s) ≤ _ ∧ (_ → (if decide (((gt Q.coefs (i : Int)).coefs.length : Int) > 0) = true then (i : Int) + 1 else s) = _)
        rw [decide_eq_true (show ((gt Q.coefs (i : Int)).coefs.length : Int) > 0 by omega), if_pos rfl]
        exact ⟨by omega, by omega, fun _ => by omega⟩
      · have c0 : (gt Q.coefs (i : Int)).coefs = [] := List.length_eq_zero_iff.mp (by omega)
        show 0 ≤ _ ∧ (if decide (((gt Q.coefs (i : Int)).coefs.length : Int) > 0) = true then (i : Int) + 1 else s) ≤ _ ∧ (_ → (if decide (((gt Q.coefs (i : Int)).coefs.length : Int) > 0) = true then (i : Int) + 1 else s) = _)
        rw [decide_eq_false (show ¬ ((gt Q.coefs (i : Int)).coefs.length : Int) > 0 by omega), if_neg (by decide)]
        refine ⟨h1, by omega, fun w => ?_⟩
        exfalso
        refine h.last (by show 0 < Q.coefs.length; omega) ?_
        show pr Q.coefs (Q.coefs.length - 1) = 0
        have e1q : Q.coefs[Q.coefs.length - 1]? = some (gt Q.coefs (i : Int)) := by
          have := (gt_memG hi).2
          rw [show Q.coefs.length - 1 = i by omega]; exact this
        rw [pr_some e1q]
        refine Ps.ext fun k => ?_
        show (co (gt Q.coefs (i : Int)).coefs k : Rat) / _ = _
        rw [c0, co_nil, Ps.zero_cf, show ((0 : Int) : Rat) = 0 from rfl, Rat.div_def, Rat.zero_mul]
  rw [rngT0_length] at lp
  obtain ⟨v, h1, h2, h3⟩ := lp
  have e4 : q_law_cut_x2_4 (Q.coefs.map fun p => some (p.coefs, p.den)) 0 = (Q.coefs.length : Int) := by
    unfold q_law_cut_x2_4
    rw [lm]
    exact h3 rfl
  constructor
  · unfold v_law_cut_x2 v_law_cut_x2_0 v_law_cut_x2_1
    rw [lm]
    exact ⟨rOk_nat (by omega), v⟩
  · unfold q_law_cut_x2 q_law_cut_x2_0 q_law_cut_x2_1 q_law_cut_x2_5
    rw [e4]
    rw [show (Q.coefs.length : Int) = ((Q.coefs.map fun p => (some (p.coefs, p.den) : Option Part)).length : Int) by rw [lm], cut_take (Nat.le_refl _), List.take_length, lm]
theorem same_spec {Q : Opr} {W : Int} {e : Nat} (h : OPV Q N n W e) (hp : PL ps M m c) (hn : n ≤ 100000) (hm : m ≤ 100000) (he : e ≤ 10000000) (hc : c ≤ 10000000) (hM : M ≤ 100000) (hl : Q.coefs.length = ps.length) (hv : ∀ i, pr Q.coefs i = ptv ps i) : v_law_same (some (Q.coefs.map fun p => some (p.coefs, p.den))) ps ∧ q_law_same (some (Q.coefs.map fun p => some (p.coefs, p.den))) ps = true := by
  have po : ∀ p ∈ Q.coefs, PoS p n (e + 1) := fun p hp => h.rv.pos (by omega) hp
  have lp' := hp.len
  have ga : ∀ i : Nat, i < Q.coefs.length → gt (Q.coefs.map fun p => some (p.coefs, p.den)) (i : Int) = some ((gt Q.coefs (i : Int)).coefs, (gt Q.coefs (i : Int)).den) := fun i hi => by
    refine gtN ?_
    rw [List.getElem?_map, (gt_memG hi).2]; rfl
  have lm : (Q.coefs.map fun p => (some (p.coefs, p.den) : Option Part)).length = Q.coefs.length := List.length_map ..
  have lp := forX_all (β := Bool) (τ := Empty) (V := fun (s4 : Unit) (x5 : Int) => v_law_same_3 (some (Q.coefs.map fun p => some (p.coefs, p.den))) ps x5) (f := fun (s4 : Unit) (x5 : Int) => q_law_same_3 (some (Q.coefs.map fun p => some (p.coefs, p.den))) ps x5) (xs := rngT 0 (ps.length : Int)) fun i a ha => by
    obtain ⟨hi, ea⟩ := rngT0_get ha
    subst ea
    obtain ⟨g1, g2⟩ := gt_memG (xs := Q.coefs) (k := i) (by omega)
    obtain ⟨k1, k2⟩ := gt_memG (xs := ps) hi
    obtain ⟨a1, a2⟩ := hp.p _ k1
    have sp := po _ g1
    have ev := hv i
    rw [pr_some g2, ptv_some k2] at ev
    obtain ⟨s1, s2, s3, s4⟩ := lscale_spec sp.ls a1.d (by omega) (by omega)
    obtain ⟨t1, t2, t3, t4⟩ := lscale_spec a1.ls sp.d (by omega) (by omega)
    have key : q_law_scale (gt Q.coefs (i : Int)).coefs (gt ps (i : Int)).2 = q_law_scale (gt ps (i : Int)).1 (gt Q.coefs (i : Int)).den := by
      have el : lv (q_law_scale (gt Q.coefs (i : Int)).coefs (gt ps (i : Int)).2) = lv (q_law_scale (gt ps (i : Int)).1 (gt Q.coefs (i : Int)).den) := by
        rw [s3, t3, a1.lv, pv_lv sp, ev]; grind
      exact tr_ext s4 t4 fun k => ic_eq (congrArg (fun f : Ps Rat => f.cf k) el)
    have hal : v_law_alike (some ((gt Q.coefs (i : Int)).coefs, (gt Q.coefs (i : Int)).den)) (gt ps (i : Int)) ∧ q_law_alike (some ((gt Q.coefs (i : Int)).coefs, (gt Q.coefs (i : Int)).den)) (gt ps (i : Int)) = true :=
      ⟨⟨rfl, s1, rfl, t1⟩, decide_eq_true key⟩
    show (_ = true ∧ inR (Q.coefs.map fun p => (some (p.coefs, p.den) : Option Part)) (i : Int) ∧ inR ps (i : Int) ∧ v_law_alike (gt (Q.coefs.map fun p => (some (p.coefs, p.den) : Option Part)) (i : Int)) (gt ps (i : Int))) ∧ (if (!(q_law_alike (gt (Q.coefs.map fun p => (some (p.coefs, p.den) : Option Part)) (i : Int)) (gt ps (i : Int)))) = true then Fl.rt q_law_same_4 else Fl.nx ()) = _
    rw [ga i (by omega), hal.2]
    exact ⟨⟨rfl, inR_nat (by rw [lm]; omega), inR_nat hi, hal.1⟩, rfl⟩
  have hd : decide (((Q.coefs.map fun p => (some (p.coefs, p.den) : Option Part)).length : Int) = (ps.length : Int)) = true := decide_eq_true (by rw [lm, hl])
  show ((_ → _) ∧ ((false || (!decide (((Q.coefs.map fun p => (some (p.coefs, p.den) : Option Part)).length : Int) = (ps.length : Int)))) = false → v_law_same_2 (some (Q.coefs.map fun p => some (p.coefs, p.den))) ps)) ∧ (if (false || (!decide (((Q.coefs.map fun p => (some (p.coefs, p.den) : Option Part)).length : Int) = (ps.length : Int)))) = true then q_law_same_1 else q_law_same_2 (some (Q.coefs.map fun p => some (p.coefs, p.den))) ps) = true
  rw [hd]
  refine ⟨⟨fun _ => rfl, fun _ => ⟨rOk_nat (by omega), lp.1⟩⟩, ?_⟩
  show (forX (fun (s4 : Unit) (x5 : Int) => q_law_same_3 (some (Q.coefs.map fun p => some (p.coefs, p.den))) ps x5) (rngT 0 (ps.length : Int)) () : Fl Unit Empty Bool).fin (fun s7 => q_law_same_6) = true
  rw [lp.2]; rfl
end
end Pd
set_option maxHeartbeats 2000000
namespace Pd
open PySem PySem.Spec L2
noncomputable def pcv_ (ps : List Part) (i : Nat) (x : Int) : Rat := pev (ptv ps i) (x : Rat)
theorem pcv_ge {ps : List Part} {i : Nat} (h : ps.length ≤ i) (x : Int) : pcv_ ps i x = 0 := by unfold pcv_; rw [ptv_ge h, pev_zero]
theorem p4 {i : Nat} (h : i ≤ 4) : 4 ^ i ≤ 256 ∧ 1 ≤ 4 ^ i := ⟨Nat.le_trans (Nat.pow_le_pow_right (by decide) h) (by decide), Nat.one_le_pow _ _ (by decide)⟩
section
variable {ps qs : List Part}
theorem after_spec (hp : PL ps 4 3 4) (hq : PL qs 4 3 4) : v_law_after ps qs ∧ PL (q_law_after ps qs) 8 6 12800 ∧ Cut (q_law_after ps qs) ∧ ∀ (I : Nat) (x : Int), pcv_ (q_law_after ps qs) I x = tws (pcv_ ps) (pcv_ qs) ps.length I x := by
  have lp := hp.len
  have lq := hq.len
  have zl : ((ps.length : Int) + (qs.length : Int)) = ((ps.length + qs.length : Nat) : Int) := by omega
  have inner : ∀ (i : Nat) (r0 : List Part), i < ps.length → r0.length = ps.length + qs.length → (∀ p ∈ r0, PtS p 6 (50 * 4 ^ i) ∧ Tr p.1) → (∀ (I : Nat) (x : Int), pcv_ r0 I x = tws (pcv_ ps) (pcv_ qs) i I x) →
      v_law_after_2 ps qs r0 (i : Int) ∧ (q_law_after_2 ps qs r0 (i : Int)).length = ps.length + qs.length ∧ (∀ p ∈ q_law_after_2 ps qs r0 (i : Int), PtS p 6 (50 * 4 ^ (i + 1)) ∧ Tr p.1) ∧ ∀ (I : Nat) (x : Int), pcv_ (q_law_after_2 ps qs r0 (i : Int)) I x = tws (pcv_ ps) (pcv_ qs) (i + 1) I x := by
    intro i r0 hi hr0 hp0 hv0
    obtain ⟨a1, a2⟩ := gt_memG hi
    obtain ⟨as, at_⟩ := hp.p _ a1
    have q4 := p4 (i := i) (by omega)
    have q5 : 4 ^ (i + 1) = 4 ^ i * 4 := Nat.pow_succ ..
    have si : Sm (i : Int) 2 := Sm.nat (by omega) (by omega) (by decide)
    have lp2 := forV_inv0 (V := fun (s3 : List Part) (x4 : Int) => v_law_after_3 ps qs s3 (i : Int) x4) (f := fun (s3 : List Part) (x4 : Int) => q_law_after_3 ps qs s3 (i : Int) x4) (xs := rngT 0 (qs.length : Int)) (s := r0)
      (fun j r => r.length = ps.length + qs.length ∧ (∀ I : Nat, I < r.length → PtS (gt r (I : Int)) 6 (if i ≤ I ∧ I < i + j then 50 * 4 ^ (i + 1) else 50 * 4 ^ i) ∧ Tr (gt r (I : Int)).1) ∧ ∀ (I : Nat) (x : Int), pcv_ r I x = tws (pcv_ ps) (pcv_ qs) i I x + (if i ≤ I ∧ I < i + j then pcv_ ps i x * pcv_ qs (I - i) (x + (i : Int)) else 0)) ⟨hr0, fun I hI => by
        rw [if_neg (by omega)]; exact hp0 _ (gt_memG hI).1, fun I x => by rw [if_neg (by omega), hv0]; grind⟩ fun j z r hz ⟨h1, h2, h3⟩ => by
        obtain ⟨hj, ez⟩ := rngT0_get hz
        subst ez
        obtain ⟨b1, b2⟩ := gt_memG (xs := qs) hj
        obtain ⟨bs, bt⟩ := hq.p _ b1
        obtain ⟨mv, ms, msh, -⟩ := lmove_spec (k := 2) bs si (by decide) (by decide)
        obtain ⟨tv', ts', te, tt⟩ := ltimes_spec as ms (by decide) (by decide) (by decide) (by decide)
        have hij : i + j < r.length := by omega
        obtain ⟨g1, g2⟩ := gt_memG hij
        obtain ⟨sB, sT⟩ := h2 (i + j) hij
        rw [if_neg (by omega)] at sB
        obtain ⟨v3, s3, m3, t3⟩ := lplus_spec sB ts' (by omega) (by decide) (by decide)
        generalize hX : q_law_plus (gt r ((i + j : Nat) : Int)) (q_law_times (gt ps (i : Int)) (q_law_move (gt qs (j : Int)) (i : Int))) = X at *
        have s3' : PtS X 6 (50 * 4 ^ (i + 1)) := s3.up (by decide) (by omega)
        have E : q_law_after_3 ps qs r (i : Int) (j : Int) = r.set (i + j) X := by
          unfold q_law_after_3
          rw [show (i : Int) + (j : Int) = ((i + j : Nat) : Int) by omega, hX]
          exact setT_nat hij
        refine ⟨?_, ?_, fun I hI => ?_, fun I x => ?_⟩
        · show v_law_after_3 ps qs r (i : Int) (j : Int)
          unfold v_law_after_3
          rw [show (i : Int) + (j : Int) = ((i + j : Nat) : Int) by omega]
          exact ⟨inR_nat hij, inR_nat hi, inR_nat hj, mv, tv', v3, inR_nat hij⟩
        · show (q_law_after_3 ps qs r (i : Int) (j : Int)).length = _
          rw [E, List.length_set, h1]
        · replace hI : I < (q_law_after_3 ps qs r (i : Int) (j : Int)).length := hI
          show PtS (gt (q_law_after_3 ps qs r (i : Int) (j : Int)) (I : Int)) _ _ ∧ Tr (gt (q_law_after_3 ps qs r (i : Int) (j : Int)) (I : Int)).1
          rw [E, List.length_set] at hI
          rw [E]
          by_cases q : I = i + j
          · subst q
            rw [if_pos (by omega), gtN (x := X) (by rw [List.getElem?_set_self hij])]
            exact ⟨s3', t3⟩
          · have : (r.set (i + j) X)[I]? = some (gt r (I : Int)) := by
              rw [List.getElem?_set_ne (by omega)]
              exact (gt_memG hI).2
            rw [gtN this]
            have old := h2 I hI
            by_cases q2 : i ≤ I ∧ I < i + j
            · rw [if_pos q2] at old
              rw [if_pos (by omega)]; exact old
            · rw [if_neg q2] at old
              rw [if_neg (by omega)]; exact old
        · show pcv_ (q_law_after_3 ps qs r (i : Int) (j : Int)) I x = _
          rw [E]
          unfold pcv_ at h3 ⊢
          rw [ptv_set hij]
          by_cases q : I = i + j
          · subst q
            have h4 := h3 (i + j) x
            rw [ptv_some g2, if_neg (by omega)] at h4
            rw [if_pos rfl, m3, te, pev_add (PtS.pl _) ((PtS.pl _).mul (PtS.pl _)), pev_mul (PtS.pl _) (PtS.pl _), h4, if_pos (by omega), show i + j - i = j by omega, msh x, ptv_some a2, ptv_some b2, Int.add_comm x]
            grind
          · rw [if_neg q, h3 I x]
            by_cases q2 : i ≤ I ∧ I < i + j
            · rw [if_pos q2, if_pos (by omega)]
            · rw [if_neg q2, if_neg (by omega)]
    rw [rngT0_length] at lp2
    obtain ⟨v, h1, h2, h3⟩ := lp2
    refine ⟨⟨rOk_nat (by omega), v⟩, h1, fun p hpm => ?_, fun I x => ?_⟩
    · obtain ⟨I, hI⟩ := List.getElem?_of_mem hpm
      have il := (List.getElem?_eq_some_iff.mp hI).1
      have hg : gt (q_law_after_2 ps qs r0 (i : Int)) (I : Int) = p := gtN hI
      have t : PtS (gt (q_law_after_2 ps qs r0 (i : Int)) (I : Int)) 6 (if i ≤ I ∧ I < i + qs.length then 50 * 4 ^ (i + 1) else 50 * 4 ^ i) ∧ Tr (gt (q_law_after_2 ps qs r0 (i : Int)) (I : Int)).1 := h2 I il
      rw [hg] at t
      refine ⟨?_, t.2⟩
      have t1 := t.1
      split at t1
      · exact t1
      · exact t1.up (Nat.le_refl _) (by omega)
    · refine (h3 I x).trans ?_
      show _ = tws (pcv_ ps) (pcv_ qs) i I x + (if i ≤ I then pcv_ ps i x * pcv_ qs (I - i) (x + (i : Int)) else 0)
      congr 1
      by_cases q : i ≤ I
      · rw [if_pos q]
        by_cases q2 : I < i + qs.length
        · rw [if_pos ⟨q, q2⟩]
        · have hz0 : pcv_ qs (I - i) (x + (i : Int)) = 0 := pcv_ge (by omega) _
          rw [if_neg (fun w => q2 w.2), hz0]; grind
      · rw [if_neg q, if_neg (fun w => q w.1)]
  have outer := forV_inv0 (V := fun (s7 : List Part) (x8 : Int) => v_law_after_2 ps qs s7 x8) (f := fun (s7 : List Part) (x8 : Int) => q_law_after_2 ps qs s7 x8) (xs := rngT 0 (ps.length : Int)) (s := (rngT 0 ((ps.length + qs.length : Nat) : Int)).map fun (x1 : Int) => (([] : List Int), (1 : Int)))
    (fun i r => r.length = ps.length + qs.length ∧ (∀ p ∈ r, PtS p 6 (50 * 4 ^ i) ∧ Tr p.1) ∧ ∀ (I : Nat) (x : Int), pcv_ r I x = tws (pcv_ ps) (pcv_ qs) i I x) ⟨by rw [List.length_map, rngT0_length], fun p hpm => by
      obtain ⟨z, _, rfl⟩ := List.mem_map.mp hpm
      exact ⟨⟨(LS.nil (b := 50) (by decide)).up (by decide) (by decide), one_sm (by decide), by decide⟩, fun w => absurd rfl w⟩, fun I x => by
      unfold pcv_ ptv
      rw [List.getElem?_map]
      cases (rngT 0 ((ps.length + qs.length : Nat) : Int))[I]? with
      | none => exact pev_zero _
      | some z =>
        show pev (pt (([] : List Int), (1 : Int))) (x : Rat) = 0
        have : pt (([] : List Int), (1 : Int)) = 0 := by unfold pt; rw [lv_nil]; grind
        rw [this, pev_zero]⟩ fun i z r hz ⟨h1, h2, h3⟩ => by
      obtain ⟨hi, ez⟩ := rngT0_get hz
      subst ez
      exact inner i r hi h1 h2 h3
  rw [rngT0_length] at outer
  obtain ⟨v, h1, h2, h3⟩ := outer
  have q4 := p4 (i := ps.length) lp
  generalize hR : (rngT 0 (ps.length : Int)).foldl (fun (s7 : List Part) (x8 : Int) => q_law_after_2 ps qs s7 x8) ((rngT 0 ((ps.length + qs.length : Nat) : Int)).map fun (x1 : Int) => (([] : List Int), (1 : Int))) = R at *
  have pl : PL R 8 6 12800 := ⟨by omega, fun p hpm => ⟨(h2 p hpm).1.up (Nat.le_refl _) (by omega), (h2 p hpm).2⟩⟩
  obtain ⟨cv, cp, cc, ce, -⟩ := cut_spec pl (by decide)
  unfold v_law_after q_law_after v_law_after_0 q_law_after_0 v_law_after_1 q_law_after_1 v_law_after_5 q_law_after_5 q_law_after_4
  rw [zl, hR]
  refine ⟨⟨rOk_nat (by omega), line_le (by rw [rngT0_length]; omega), rOk_nat (by omega), v, cv⟩, cp, cc, fun I x => ?_⟩
  rw [← h3 I x]
  unfold pcv_
  rw [ce]
end
def prv (p : Int × Int) : Rat := (p.1 : Rat) * (p.2 : Rat)⁻¹
structure PrS (p : Int × Int) (b : Nat) : Prop where
  n : Sm p.1 b
  d : Sm p.2 b
  ne : p.2 ≠ 0
theorem PrS.up {p : Int × Int} {b c : Nat} (h : PrS p b) (l : b ≤ c) : PrS p c := ⟨h.n.up l, h.d.up l, h.ne⟩
theorem vector_spec {ps : List (Int × Int)} {b : Nat} (h : ∀ p ∈ ps, PrS p b) (hl : ps.length ≤ 10000000) : v_law_vector ps ∧ (∀ f ∈ q_law_vector ps, FrS f b) ∧ (q_law_vector ps).length = ps.length ∧ ∀ i : Nat, i < ps.length → fv (gt (q_law_vector ps) (i : Int)) = prv (gt ps (i : Int)) := by
  have el : ∀ p ∈ ps, v_Fraction_init p.1 p.2 ∧ FrS (q_Fraction_init p.1 p.2) b ∧ fv (q_Fraction_init p.1 p.2) = prv p := fun p hp => by
    have := h p hp
    obtain ⟨v, s, e⟩ := frac_mk this.ne this.n this.d
    exact ⟨v, s, by rw [e, Rat.div_def]; rfl⟩
  refine ⟨⟨fun p hp => (el p hp).1, line_le (by omega)⟩, fun f hf => ?_, List.length_map .., fun i hi => ?_⟩
  · obtain ⟨p, hp, rfl⟩ := List.mem_map.mp hf
    exact (el p hp).2.1
  · have g := gt_memG hi
    have : gt (q_law_vector ps) (i : Int) = q_Fraction_init (gt ps (i : Int)).1 (gt ps (i : Int)).2 := gtN (by
      show (ps.map fun (x1 : Int × Int) => q_Fraction_init x1.1 x1.2)[i]? = _
      rw [List.getElem?_map, g.2]; rfl)
    rw [this, (el _ g.1).2.2]
theorem isx2_spec {f : Fr} {p : Int × Int} {b c : Nat} (hf : FrS f b) (hp : PrS p c) (h : fv f = prv p) (hb : b ≤ 40000000) (hc : c ≤ 40000000) : v_law_is_x2 f p ∧ q_law_is_x2 f p = true := by
  have k : f.num * p.2 = p.1 * f.den := by
    refine ic_eq ?_
    rw [Rat.intCast_mul, Rat.intCast_mul]
    unfold fv prv at h
    have n1 := hf.ne
    have n2 := ic_ne hp.ne
    rw [Rat.div_def] at h
    generalize (f.num : Rat) = a at *
    generalize (f.den : Rat) = b' at *
    generalize (p.1 : Rat) = c' at *
    generalize (p.2 : Rat) = d at *
    grind
  have hd : decide (f.den < 1) = false := decide_eq_false (by have := hf.pos; omega)
  refine ⟨fun _ => ⟨mulOk_sm hf.n hp.d (by omega), mulOk_sm hp.n hf.d (by omega)⟩, ?_⟩
  unfold q_law_is_x2 q_law_is_x2_0 q_law_is_x2_2
  rw [hd, decide_eq_true k]; rfl
theorem are_spec {xs : List Fr} {ps : List (Int × Int)} {b c : Nat} (hx : ∀ f ∈ xs, FrS f b) (hp : ∀ p ∈ ps, PrS p c) (hl : xs.length = ps.length) (hl2 : ps.length ≤ 10000000) (hv : ∀ i : Nat, i < ps.length → fv (gt xs (i : Int)) = prv (gt ps (i : Int))) (hb : b ≤ 40000000) (hc : c ≤ 40000000) : v_law_are xs ps ∧ q_law_are xs ps = true := by
  have lp := forX_all (β := Bool) (τ := Empty) (V := fun (s4 : Unit) (x5 : Int) => v_law_are_3 xs ps x5) (f := fun (s4 : Unit) (x5 : Int) => q_law_are_3 xs ps x5) (xs := rngT 0 (ps.length : Int)) fun i a ha => by
    obtain ⟨hi, ea⟩ := rngT0_get ha
    subst ea
    obtain ⟨v, e⟩ := isx2_spec (hx _ (gt_memG (xs := xs) (k := i) (by omega)).1) (hp _ (gt_memG (xs := ps) hi).1) (hv i hi) hb hc
    refine ⟨⟨inR_nat (by omega), inR_nat hi, v⟩, ?_⟩
    unfold q_law_are_3
    rw [e]; rfl
  have hd : decide ((xs.length : Int) = (ps.length : Int)) = true := decide_eq_true (by omega)
  unfold v_law_are q_law_are v_law_are_0 q_law_are_0
  rw [hd]
  refine ⟨fun _ => ⟨rOk_nat (by omega), lp.1⟩, ?_⟩
  show (forX (fun (s4 : Unit) (x5 : Int) => q_law_are_3 xs ps x5) (rngT 0 (ps.length : Int)) () : Fl Unit Empty Bool).fin (fun s7 => q_law_are_6) = true
  rw [lp.2]; rfl
end Pd
set_option maxHeartbeats 4000000
namespace G
open PySem PySem.Spec L2 Pd
theorem r_law_cell_1 (script' : List Int) (k' : Int) (h : v_law_cell_1 script' k') : RtOk (b_law_cell_0 [cD (qL qI script'), cD (qI k')]) (fun r x => x = .fro (qI r)) (q_law_cell_1 script' k') :=
  rt_ret (ev_e2 ev_fro ev_fro (g_ix (k := .fro) (e := qI) h)) rfl (by simp)
theorem r_law_cell_3 {j0 : Option Cel} (k' : Int) (h : v_law_cell_3 k') : RtOk (b_law_cell_1 [j0, cD (qI k')]) (fun r x => x = .fro (qI r)) (q_law_cell_3 k') :=
  rt_ret (ev_e2 ev_c ev_fro (g_mul h)) rfl (by simp)
theorem r_law_cell_4 (script' : List Int) (k' : Int) (h : v_law_cell_4 script' k') : RtOk (b_law_cell_2 [cD (qL qI script'), cD (qI k')]) (fun r x => x = .fro (qI r)) (q_law_cell_4 script' k') :=
  rt_ret (ev_e2 (ev_e2 (ev_e1 (ev_e2 ev_fro ev_c (g_ix (k := .fro) (e := qI) h.1)) rfl) ev_c (g_mul h.2.1)) (ev_e2 ev_c ev_fro (g_mul h.2.2)) rfl) rfl (by simp)
theorem r_law_cell_2 (script' : List Int) (k' : Int) (h : v_law_cell_2 script' k') : RtOk (b_law_cell_3 [cD (qL qI script'), cD (qI k')]) (fun r x => x = .fro (qI r)) (q_law_cell_2 script' k') :=
  rt_sif (tv_b (ev_e2 (ev_e1 ev_fro (g_len (k := .fro))) ev_c g_eqI)) (fun hb2 => rt_seq (r_law_cell_3 k' (h.1 hb2))) (fun hb2 => RtOk.of (sq_nx rfl) (r_law_cell_4 script' k' (h.2 hb2)))
theorem r_law_cell_0 (script' : List Int) (k' : Int) (h : v_law_cell_0 script' k') : RtOk (b_law_cell_4 [cD (qL qI script'), cD (qI k')]) (fun r x => x = .fro (qI r)) (q_law_cell_0 script' k') :=
  rt_sif (tv_b (ev_e2 ev_fro (ev_e1 ev_fro (g_len (k := .fro))) rfl)) (fun hb1 => rt_seq (r_law_cell_1 script' k' (h.1 hb1))) (fun hb1 => RtOk.of (sq_nx rfl) (r_law_cell_2 script' k' (h.2 hb1)))
theorem r_law_cell (script' : List Int) (k' : Int) (h : v_law_cell script' k') : f_law_cell [qL qI script', qI k'] = some (.ok (.fro (qI (q_law_cell script' k')))) :=
  fn_F (e := qI) (r_law_cell_0 script' k' h)
theorem r_law_digits_6 {j2 : Option Cel} {j6 : Option Cel} {j7 : Option Cel} (cell_here' : Int) (limit' : Int) (rest' : Int) (whole' : Bool) (found' : List Int) (h : v_law_digits_6 cell_here' limit' rest' whole' found') : NxOk (b_law_digits_0 [cD (qI cell_here'), cD (qI limit'), j2, cD (qI rest'), cD (qB whole'), cO (found'.map qI), j6, j7]) (fun (s : Int × (List Int)) w => ∃ (j2 : Option Cel) (j6 : Option Cel) (j7 : Option Cel), w = [cD (qI cell_here'), cD (qI limit'), j2, cD (qI s.1), cD (qB whole'), cO (s.2.map qI), j6, j7]) (q_law_digits_6 cell_here' limit' rest' whole' found') :=
  nx_st (ρ' := [cD (qI cell_here'), cD (qI limit'), _, cD (qI (Int.fdiv rest' limit')), cD (qB whole'), cO (found'.map qI), _, _]) (st_set (ev_e2 ev_fro ev_fro (g_div h)) rfl rfl) ⟨_, _, _, rfl⟩
theorem r_law_digits_5 {j2 : Option Cel} {j6 : Option Cel} {j7 : Option Cel} (cell_here' : Int) (limit' : Int) (rest' : Int) (whole' : Bool) (found' : List Int) (h : v_law_digits_5 cell_here' limit' rest' whole' found') : NxOk (b_law_digits_1 [cD (qI cell_here'), cD (qI limit'), j2, cD (qI rest'), cD (qB whole'), cO (found'.map qI), j6, j7]) (fun (s : Int × (List Int)) w => ∃ (j2 : Option Cel) (j6 : Option Cel) (j7 : Option Cel), w = [cD (qI cell_here'), cD (qI limit'), j2, cD (qI s.1), cD (qB whole'), cO (s.2.map qI), j6, j7]) (q_law_digits_5 cell_here' limit' rest' whole' found') :=
  NxOk.of (sq_nx (ρ' := [cD (qI cell_here'), cD (qI limit'), _, cD (qI rest'), cD (qB whole'), cO ((found' ++ [(Int.fmod rest' limit')]).map qI), _, _]) (st_appT (e := qI) rfl (ev_e2 (ev_e1 ev_fro rfl) ev_fro (g_mod h.1)) rfl h.2.1 rfl)) (r_law_digits_6 cell_here' limit' rest' whole' (found' ++ [(Int.fmod rest' limit')]) h.2.2)
theorem r_law_digits_9 {j2 : Option Cel} {j6 : Option Cel} (cell_here' : Int) (limit' : Int) (rest' : Int) (whole' : Bool) (found' : List Int) (mixed' : Int) (h : v_law_digits_9 cell_here' limit' rest' whole' found' mixed') : NxOk (b_law_digits_2 [cD (qI cell_here'), cD (qI limit'), j2, cD (qI rest'), cD (qB whole'), cO (found'.map qI), j6, cD (qI mixed')]) (fun (s : Int × (List Int)) w => ∃ (j2 : Option Cel) (j6 : Option Cel) (j7 : Option Cel), w = [cD (qI cell_here'), cD (qI limit'), j2, cD (qI s.1), cD (qB whole'), cO (s.2.map qI), j6, j7]) (q_law_digits_9 cell_here' limit' rest' whole' found' mixed') :=
  nx_st (ρ' := [cD (qI cell_here'), cD (qI limit'), _, cD (qI rest'), cD (qB whole'), cO ((found' ++ [(Int.fmod (Int.fdiv mixed' (5 : Int)) limit')]).map qI), _, cD (qI mixed')]) (st_appT (e := qI) rfl (ev_e2 (ev_e1 (ev_e2 ev_fro ev_c (g_div (by decide))) rfl) ev_fro (g_mod h.1)) rfl h.2 rfl) ⟨_, _, _, rfl⟩
theorem r_law_digits_8 {j2 : Option Cel} (cell_here' : Int) (limit' : Int) (rest' : Int) (whole' : Bool) (found' : List Int) (k' : Int) (mixed' : Int) (h : v_law_digits_8 cell_here' limit' rest' whole' found' k' mixed') : NxOk (b_law_digits_3 [cD (qI cell_here'), cD (qI limit'), j2, cD (qI rest'), cD (qB whole'), cO (found'.map qI), cD (qI k'), cD (qI mixed')]) (fun (s : Int × (List Int)) w => ∃ (j2 : Option Cel) (j6 : Option Cel) (j7 : Option Cel), w = [cD (qI cell_here'), cD (qI limit'), j2, cD (qI s.1), cD (qB whole'), cO (s.2.map qI), j6, j7]) (q_law_digits_8 cell_here' limit' rest' whole' found' k' mixed') :=
  NxOk.of (sq_nx (ρ' := [cD (qI cell_here'), cD (qI limit'), _, cD (qI rest'), cD (qB whole'), cO (found'.map qI), cD (qI k'), cD (qI (Int.fmod ((mixed' * (16807 : Int)) + ((11 : Int) * k')) (2147483629 : Int)))]) (st_set (ev_e2 (ev_e1 (ev_e2 (ev_e2 ev_fro ev_c (g_mul h.1)) (ev_e2 ev_c ev_fro (g_mul h.2.1)) rfl) rfl) ev_c (g_mod (by decide))) rfl rfl)) (r_law_digits_9 cell_here' limit' rest' whole' found' (Int.fmod ((mixed' * (16807 : Int)) + ((11 : Int) * k')) (2147483629 : Int)) h.2.2)
theorem r_law_digits_7 {j2 : Option Cel} {j7 : Option Cel} (cell_here' : Int) (limit' : Int) (rest' : Int) (whole' : Bool) (found' : List Int) (k' : Int) (h : v_law_digits_7 cell_here' limit' rest' whole' found' k') : NxOk (b_law_digits_4 [cD (qI cell_here'), cD (qI limit'), j2, cD (qI rest'), cD (qB whole'), cO (found'.map qI), cD (qI k'), j7]) (fun (s : Int × (List Int)) w => ∃ (j2 : Option Cel) (j6 : Option Cel) (j7 : Option Cel), w = [cD (qI cell_here'), cD (qI limit'), j2, cD (qI s.1), cD (qB whole'), cO (s.2.map qI), j6, j7]) (q_law_digits_7 cell_here' limit' rest' whole' found' k') :=
  NxOk.of (sq_nx (ρ' := [cD (qI cell_here'), cD (qI limit'), _, cD (qI rest'), cD (qB whole'), cO (found'.map qI), cD (qI k'), cD (qI (Int.fmod ((((cell_here'.natAbs : Int) + (3 : Int)) * (48271 : Int)) + (k' * (69621 : Int))) (2147483647 : Int)))]) (st_set (ev_e2 (ev_e1 (ev_e2 (ev_e2 (ev_e2 (ev_e1 ev_fro g_abs) ev_c rfl) ev_c (g_mul h.1)) (ev_e2 ev_fro ev_c (g_mul h.2.1)) rfl) rfl) ev_c (g_mod (by decide))) rfl rfl)) (r_law_digits_8 cell_here' limit' rest' whole' found' k' (Int.fmod ((((cell_here'.natAbs : Int) + (3 : Int)) * (48271 : Int)) + (k' * (69621 : Int))) (2147483647 : Int)) h.2.2)
theorem r_law_digits_4 {j2 : Option Cel} {j7 : Option Cel} (cell_here' : Int) (limit' : Int) (rest' : Int) (whole' : Bool) (found' : List Int) (k' : Int) (h : v_law_digits_4 cell_here' limit' rest' whole' found' k') : NxOk (b_law_digits_5 [cD (qI cell_here'), cD (qI limit'), j2, cD (qI rest'), cD (qB whole'), cO (found'.map qI), cD (qI k'), j7]) (fun (s : Int × (List Int)) w => ∃ (j2 : Option Cel) (j6 : Option Cel) (j7 : Option Cel), w = [cD (qI cell_here'), cD (qI limit'), j2, cD (qI s.1), cD (qB whole'), cO (s.2.map qI), j6, j7]) (q_law_digits_4 cell_here' limit' rest' whole' found' k') :=
  nx_if (tv_and (tv_tru ev_fro rfl) (fun hb1 => tv_b (ev_e2 ev_fro ev_c rfl))) (fun hb2 => r_law_digits_5 cell_here' limit' rest' whole' found' (h.1 hb2)) (fun hb2 => r_law_digits_7 cell_here' limit' rest' whole' found' k' (h.2 hb2))
theorem r_law_digits_11 {j0 : Option Cel} {j1 : Option Cel} {j2 : Option Cel} {j3 : Option Cel} {j4 : Option Cel} {j6 : Option Cel} {j7 : Option Cel} (found' : List Int) : RtOk (b_law_digits_6 [j0, j1, j2, j3, j4, cO (found'.map qI), j6, j7]) (fun r x => x = .own (r.map qI)) (q_law_digits_11 found') :=
  rt_retO rfl rfl
theorem r_law_digits_3 {j6 : Option Cel} {j7 : Option Cel} (cell_here' : Int) (limit' : Int) (count' : Int) (rest' : Int) (whole' : Bool) (found' : List Int) (h : v_law_digits_3 cell_here' limit' count' rest' whole' found') : RtOk (b_law_digits_7 [cD (qI cell_here'), cD (qI limit'), cD (qI count'), cD (qI rest'), cD (qB whole'), cO (found'.map qI), j6, j7]) (fun r x => x = .own (r.map qI)) (q_law_digits_3 cell_here' limit' count' rest' whole' found') :=
  sq_NR (E := (fun (s : Int × (List Int)) w => ∃ (j2 : Option Cel) (j6 : Option Cel) (j7 : Option Cel), w = [cD (qI cell_here'), cD (qI limit'), j2, cD (qI s.1), cD (qB whole'), cO (s.2.map qI), j6, j7])) (q := q_law_digits_10 cell_here' limit' count' rest' whole' found') (NxOk.of (sfor_eq (iv_r1 ev_fro h.1)) (for_N (E := (fun (s : Int × (List Int)) w => ∃ (j2 : Option Cel) (j6 : Option Cel) (j7 : Option Cel), w = [cD (qI cell_here'), cD (qI limit'), j2, cD (qI s.1), cD (qB whole'), cO (s.2.map qI), j6, j7])) (V := fun (s3 : Int × (List Int)) (x4 : Int) => v_law_digits_4 cell_here' limit' s3.1 whole' s3.2 x4) (f := fun (s3 : Int × (List Int)) (x4 : Int) => q_law_digits_4 cell_here' limit' s3.1 whole' s3.2 x4) (e := qI) (fun s3 x4 ρ hρ hv5 => by obtain ⟨_, _, _, rfl⟩ := hρ; exact ⟨_, rfl, r_law_digits_4 cell_here' limit' s3.1 whole' s3.2 x4 hv5⟩) (rngT 0 count') (rest', found') _ ⟨_, _, _, rfl⟩ h.2)) (fun w hw => by obtain ⟨_, _, _, rfl⟩ := hw; exact r_law_digits_11 ((q_law_digits_10 cell_here' limit' count' rest' whole' found').2))
theorem r_law_digits_2 {j5 : Option Cel} {j6 : Option Cel} {j7 : Option Cel} (cell_here' : Int) (limit' : Int) (count' : Int) (rest' : Int) (whole' : Bool) (h : v_law_digits_2 cell_here' limit' count' rest' whole') : RtOk (b_law_digits_8 [cD (qI cell_here'), cD (qI limit'), cD (qI count'), cD (qI rest'), cD (qB whole'), j5, j6, j7]) (fun r x => x = .own (r.map qI)) (q_law_digits_2 cell_here' limit' count' rest' whole') :=
  RtOk.of (sq_nx (ρ' := [cD (qI cell_here'), cD (qI limit'), cD (qI count'), cD (qI rest'), cD (qB whole'), cO (([] : List Int).map qI), _, _]) (st_set (ev_lst av_nil) rfl rfl)) (r_law_digits_3 cell_here' limit' count' rest' whole' ([] : List Int) h)
theorem r_law_digits_1 {j4 : Option Cel} {j5 : Option Cel} {j6 : Option Cel} {j7 : Option Cel} (cell_here' : Int) (limit' : Int) (count' : Int) (rest' : Int) (h : v_law_digits_1 cell_here' limit' count' rest') : RtOk (b_law_digits_9 [cD (qI cell_here'), cD (qI limit'), cD (qI count'), cD (qI rest'), j4, j5, j6, j7]) (fun r x => x = .own (r.map qI)) (q_law_digits_1 cell_here' limit' count' rest') :=
  RtOk.of (sq_nx (ρ' := [cD (qI cell_here'), cD (qI limit'), cD (qI count'), cD (qI rest'), cD (qB (decide (rest' ≥ (1000000000000000000 : Int)))), _, _, _]) (st_set (ev_e2 ev_fro (ev_e2 ev_c ev_c (g_powl (k := 1000000000000000000) (by decide) (by decide +kernel))) rfl) rfl rfl)) (r_law_digits_2 cell_here' limit' count' rest' (decide (rest' ≥ (1000000000000000000 : Int))) h)
theorem r_law_digits_0 {j3 : Option Cel} {j4 : Option Cel} {j5 : Option Cel} {j6 : Option Cel} {j7 : Option Cel} (cell_here' : Int) (limit' : Int) (count' : Int) (h : v_law_digits_0 cell_here' limit' count') : RtOk (b_law_digits_10 [cD (qI cell_here'), cD (qI limit'), cD (qI count'), j3, j4, j5, j6, j7]) (fun r x => x = .own (r.map qI)) (q_law_digits_0 cell_here' limit' count') :=
  RtOk.of (sq_nx (ρ' := [cD (qI cell_here'), cD (qI limit'), cD (qI count'), cD (qI (cell_here'.natAbs : Int)), _, _, _, _]) (st_set (ev_e1 ev_fro g_abs) rfl rfl)) (r_law_digits_1 cell_here' limit' count' (cell_here'.natAbs : Int) h)
theorem r_law_digits (cell_here' : Int) (limit' : Int) (count' : Int) (h : v_law_digits cell_here' limit' count') : f_law_digits [qI cell_here', qI limit', qI count'] = some (.ok (.own ((q_law_digits cell_here' limit' count').map qI))) :=
  fn_O (r_law_digits_0 cell_here' limit' count' h)
theorem r_law_trim_3 (xs' : List Int) (size' : Int) (k' : Int) : NxOk (b_law_trim_0 [cD (qL qI xs'), cD (qI size'), cD (qI k')]) (fun (s : Int) w => ∃ (j2 : Option Cel), w = [cD (qL qI xs'), cD (qI s), j2]) (q_law_trim_3 xs' size' k') :=
  nx_st (ρ' := [cD (qL qI xs'), cD (qI (k' + (1 : Int))), cD (qI k')]) (st_set (ev_e2 ev_fro ev_c rfl) rfl rfl) ⟨_, rfl⟩
theorem r_law_trim_2 (xs' : List Int) (size' : Int) (k' : Int) (h : v_law_trim_2 xs' size' k') : NxOk (b_law_trim_1 [cD (qL qI xs'), cD (qI size'), cD (qI k')]) (fun (s : Int) w => ∃ (j2 : Option Cel), w = [cD (qL qI xs'), cD (qI s), j2]) (q_law_trim_2 xs' size' k') :=
  nx_if (tv_b (ev_e2 (ev_e2 ev_fro ev_fro (g_ix (k := .fro) (e := qI) h)) ev_c g_neI)) (fun hb1 => r_law_trim_3 xs' size' k') (fun hb1 => nx_next ⟨_, rfl⟩)
theorem r_law_trim_5 {j2 : Option Cel} (xs' : List Int) (size' : Int) : RtOk (b_law_trim_2 [cD (qL qI xs'), cD (qI size'), j2]) (fun r x => x = .own (r.map qI)) (q_law_trim_5 xs' size') :=
  rt_ret (ev_sl (k := .fro) ev_fro ov_none (ov_some ev_fro)) rfl (by simp)
theorem r_law_trim_1 {j2 : Option Cel} (xs' : List Int) (size' : Int) (h : v_law_trim_1 xs' size') : RtOk (b_law_trim_3 [cD (qL qI xs'), cD (qI size'), j2]) (fun r x => x = .own (r.map qI)) (q_law_trim_1 xs' size') :=
  sq_NR (E := (fun (s : Int) w => ∃ (j2 : Option Cel), w = [cD (qL qI xs'), cD (qI s), j2])) (q := q_law_trim_4 xs' size') (NxOk.of (sfor_eq (iv_r1 (ev_e1 ev_fro (g_len (k := .fro))) h.1)) (for_N (E := (fun (s : Int) w => ∃ (j2 : Option Cel), w = [cD (qL qI xs'), cD (qI s), j2])) (V := fun (s2 : Int) (x3 : Int) => v_law_trim_2 xs' s2 x3) (f := fun (s2 : Int) (x3 : Int) => q_law_trim_2 xs' s2 x3) (e := qI) (fun s2 x3 ρ hρ hv4 => by obtain ⟨_, rfl⟩ := hρ; exact ⟨_, rfl, r_law_trim_2 xs' s2 x3 hv4⟩) (rngT 0 (xs'.length : Int)) size' _ ⟨_, rfl⟩ h.2)) (fun w hw => by obtain ⟨_, rfl⟩ := hw; exact r_law_trim_5 xs' (q_law_trim_4 xs' size'))
theorem r_law_trim_0 {j1 : Option Cel} {j2 : Option Cel} (xs' : List Int) (h : v_law_trim_0 xs') : RtOk (b_law_trim_4 [cD (qL qI xs'), j1, j2]) (fun r x => x = .own (r.map qI)) (q_law_trim_0 xs') :=
  RtOk.of (sq_nx (ρ' := [cD (qL qI xs'), cD (qI (0 : Int)), _]) (st_set ev_c rfl rfl)) (r_law_trim_1 xs' (0 : Int) h)
theorem r_law_trim (xs' : List Int) (h : v_law_trim xs') : f_law_trim [qL qI xs'] = some (.ok (.own ((q_law_trim xs').map qI))) :=
  fn_O (r_law_trim_0 xs' h)
noncomputable def q_law_draw_5 (ds' : List Int) (coefs' : List Int) : (List Int) :=
  (coefs' ++ [(0 : Int)])
def v_law_draw_5 (ds' : List Int) (coefs' : List Int) : Prop :=
  coefs'.length < LINE
noncomputable def q_law_draw_6 (ds' : List Int) (coefs' : List Int) (d' : Int) : (List Int) :=
  (coefs' ++ [((Int.fmod d' (19 : Int)) - (9 : Int))])
def v_law_draw_6 (ds' : List Int) (coefs' : List Int) (d' : Int) : Prop :=
  coefs'.length < LINE
noncomputable def q_law_draw_4 (ds' : List Int) (coefs' : List Int) (d' : Int) : (List Int) :=
  if ((decide ((Int.fmod (gt ds' (1 : Int)) (3 : Int)) = (0 : Int))) && (decide ((Int.fmod (Int.fdiv d' (19 : Int)) (2 : Int)) = (0 : Int)))) then q_law_draw_5 ds' coefs' else q_law_draw_6 ds' coefs' d'
def v_law_draw_4 (ds' : List Int) (coefs' : List Int) (d' : Int) : Prop :=
  (inR ds' (1 : Int) ∧ (((decide ((Int.fmod (gt ds' (1 : Int)) (3 : Int)) = (0 : Int))) && (decide ((Int.fmod (Int.fdiv d' (19 : Int)) (2 : Int)) = (0 : Int)))) = true → v_law_draw_5 ds' coefs') ∧ (((decide ((Int.fmod (gt ds' (1 : Int)) (3 : Int)) = (0 : Int))) && (decide ((Int.fmod (Int.fdiv d' (19 : Int)) (2 : Int)) = (0 : Int)))) = false → v_law_draw_6 ds' coefs' d'))
noncomputable def q_law_draw_7 (ds' : List Int) (size' : Int) (coefs' : List Int) : (List Int) :=
  (cutT ds' (some (2 : Int)) (some ((2 : Int) + size'))).foldl (fun (s3 : (List Int)) (x4 : Int) => q_law_draw_4 ds' s3 x4) coefs'
noncomputable def q_law_draw_8 (ds' : List Int) (coefs' : List Int) : (List Int) × Int :=
  (q_law_trim coefs', ((Int.fmod (Int.fdiv (gt ds' (1 : Int)) (3 : Int)) (3 : Int)) + (1 : Int)))
def v_law_draw_8 (ds' : List Int) (coefs' : List Int) : Prop :=
  (v_law_trim coefs' ∧ inR ds' (1 : Int))
noncomputable def q_law_draw_3 (ds' : List Int) (size' : Int) (coefs' : List Int) : (List Int) × Int :=
  q_law_draw_8 ds' (q_law_draw_7 ds' size' coefs')
def v_law_draw_3 (ds' : List Int) (size' : Int) (coefs' : List Int) : Prop :=
  (forV (fun (s3 : (List Int)) (x4 : Int) => v_law_draw_4 ds' s3 x4) (fun (s3 : (List Int)) (x4 : Int) => q_law_draw_4 ds' s3 x4) (cutT ds' (some (2 : Int)) (some ((2 : Int) + size'))) coefs' ∧ v_law_draw_8 ds' (q_law_draw_7 ds' size' coefs'))
noncomputable def q_law_draw_2 (ds' : List Int) (size' : Int) : (List Int) × Int :=
  q_law_draw_3 ds' size' ([] : List Int)
def v_law_draw_2 (ds' : List Int) (size' : Int) : Prop :=
  v_law_draw_3 ds' size' ([] : List Int)
noncomputable def q_law_draw_1 (most' : Int) (ds' : List Int) : (List Int) × Int :=
  q_law_draw_2 ds' (Int.fmod (gt ds' (0 : Int)) (most' + (2 : Int)))
def v_law_draw_1 (most' : Int) (ds' : List Int) : Prop :=
  (inR ds' (0 : Int) ∧ (most' + (2 : Int)) ≠ 0 ∧ v_law_draw_2 ds' (Int.fmod (gt ds' (0 : Int)) (most' + (2 : Int))))
noncomputable def q_law_draw_0 (cell_here' : Int) (most' : Int) : (List Int) × Int :=
  q_law_draw_1 most' (q_law_digits cell_here' (228 : Int) (most' + (3 : Int)))
def v_law_draw_0 (cell_here' : Int) (most' : Int) : Prop :=
  (v_law_digits cell_here' (228 : Int) (most' + (3 : Int)) ∧ v_law_draw_1 most' (q_law_digits cell_here' (228 : Int) (most' + (3 : Int))))
noncomputable def q_law_draw (cell_here' : Int) (most' : Int) : (List Int) × Int :=
  q_law_draw_0 cell_here' most'
def v_law_draw (cell_here' : Int) (most' : Int) : Prop :=
  v_law_draw_0 cell_here' most'
theorem r_law_draw_5 {j0 : Option Cel} {j1 : Option Cel} {j3 : Option Cel} {j5 : Option Cel} (ds' : List Int) (coefs' : List Int) (h : v_law_draw_5 ds' coefs') : NxOk (b_law_draw_0 [j0, j1, cO (ds'.map qI), j3, cO (coefs'.map qI), j5]) (fun (s : (List Int)) w => ∃ (j0 : Option Cel) (j1 : Option Cel) (j3 : Option Cel) (j5 : Option Cel), w = [j0, j1, cO (ds'.map qI), j3, cO (s.map qI), j5]) (q_law_draw_5 ds' coefs') :=
  nx_st (ρ' := [_, _, cO (ds'.map qI), _, cO ((coefs' ++ [(0 : Int)]).map qI), _]) (st_appT (e := qI) rfl ev_c rfl h rfl) ⟨_, _, _, _, rfl⟩
theorem r_law_draw_6 {j0 : Option Cel} {j1 : Option Cel} {j3 : Option Cel} (ds' : List Int) (coefs' : List Int) (d' : Int) (h : v_law_draw_6 ds' coefs' d') : NxOk (b_law_draw_1 [j0, j1, cO (ds'.map qI), j3, cO (coefs'.map qI), cD (qI d')]) (fun (s : (List Int)) w => ∃ (j0 : Option Cel) (j1 : Option Cel) (j3 : Option Cel) (j5 : Option Cel), w = [j0, j1, cO (ds'.map qI), j3, cO (s.map qI), j5]) (q_law_draw_6 ds' coefs' d') :=
  nx_st (ρ' := [_, _, cO (ds'.map qI), _, cO ((coefs' ++ [((Int.fmod d' (19 : Int)) - (9 : Int))]).map qI), cD (qI d')]) (st_appT (e := qI) rfl (ev_e2 (ev_e2 (ev_e1 ev_fro rfl) ev_c (g_mod (by decide))) ev_c rfl) rfl h rfl) ⟨_, _, _, _, rfl⟩
theorem r_law_draw_4 {j0 : Option Cel} {j1 : Option Cel} {j3 : Option Cel} (ds' : List Int) (coefs' : List Int) (d' : Int) (h : v_law_draw_4 ds' coefs' d') : NxOk (b_law_draw_2 [j0, j1, cO (ds'.map qI), j3, cO (coefs'.map qI), cD (qI d')]) (fun (s : (List Int)) w => ∃ (j0 : Option Cel) (j1 : Option Cel) (j3 : Option Cel) (j5 : Option Cel), w = [j0, j1, cO (ds'.map qI), j3, cO (s.map qI), j5]) (q_law_draw_4 ds' coefs' d') :=
  nx_if (tv_and (tv_b (ev_e2 (ev_e2 (ev_e1 (ev_e2 ev_own ev_c (g_ix (k := .bor) (e := qI) h.1)) rfl) ev_c (g_mod (by decide))) ev_c g_eqI)) (fun hb1 => tv_b (ev_e2 (ev_e2 (ev_e1 (ev_e2 ev_fro ev_c (g_div (by decide))) rfl) ev_c (g_mod (by decide))) ev_c g_eqI))) (fun hb2 => r_law_draw_5 ds' coefs' (h.2.1 hb2)) (fun hb2 => r_law_draw_6 ds' coefs' d' (h.2.2 hb2))
theorem r_law_draw_8 {j0 : Option Cel} {j1 : Option Cel} {j3 : Option Cel} {j5 : Option Cel} (ds' : List Int) (coefs' : List Int) (h : v_law_draw_8 ds' coefs') : RtOk (b_law_draw_3 [j0, j1, cO (ds'.map qI), j3, cO (coefs'.map qI), j5]) (fun r x => x = .fro (qT2 (qL qI) qI r)) (q_law_draw_8 ds' coefs') :=
  RtOk.of (fq_own (ρ' := [_, _, cO (ds'.map qI), _, cD (qL qI coefs'), _]) rfl rfl) (rt_ret (ev_tup (av_cons (ev_call (r_law_trim coefs' h.1) (av_cons ev_fro rfl av_nil)) rfl (av_cons (ev_e2 (ev_e2 (ev_e1 (ev_e2 (ev_e2 ev_own ev_c (g_ix (k := .bor) (e := qI) h.2)) ev_c (g_div (by decide))) rfl) ev_c (g_mod (by decide))) ev_c rfl) rfl av_nil)) (Nat.le_of_ble_eq_true rfl)) rfl (by simp))
theorem r_law_draw_3 {j0 : Option Cel} {j1 : Option Cel} {j5 : Option Cel} (ds' : List Int) (size' : Int) (coefs' : List Int) (h : v_law_draw_3 ds' size' coefs') : RtOk (b_law_draw_4 [j0, j1, cO (ds'.map qI), cD (qI size'), cO (coefs'.map qI), j5]) (fun r x => x = .fro (qT2 (qL qI) qI r)) (q_law_draw_3 ds' size' coefs') :=
  sq_NR (E := (fun (s : (List Int)) w => ∃ (j0 : Option Cel) (j1 : Option Cel) (j3 : Option Cel) (j5 : Option Cel), w = [j0, j1, cO (ds'.map qI), j3, cO (s.map qI), j5])) (q := q_law_draw_7 ds' size' coefs') (NxOk.of (sfor_eq (iv_k (k := .own) (ev_sl (k := .bor) ev_own (ov_some ev_c) (ov_some (ev_e2 ev_c ev_fro rfl))) (by simp))) (for_N (E := (fun (s : (List Int)) w => ∃ (j0 : Option Cel) (j1 : Option Cel) (j3 : Option Cel) (j5 : Option Cel), w = [j0, j1, cO (ds'.map qI), j3, cO (s.map qI), j5])) (V := fun (s3 : (List Int)) (x4 : Int) => v_law_draw_4 ds' s3 x4) (f := fun (s3 : (List Int)) (x4 : Int) => q_law_draw_4 ds' s3 x4) (e := qI) (fun s3 x4 ρ hρ hv5 => by obtain ⟨_, _, _, _, rfl⟩ := hρ; exact ⟨_, rfl, r_law_draw_4 ds' s3 x4 hv5⟩) (cutT ds' (some (2 : Int)) (some ((2 : Int) + size'))) coefs' _ ⟨_, _, _, _, rfl⟩ h.1)) (fun w hw => by obtain ⟨_, _, _, _, rfl⟩ := hw; exact r_law_draw_8 ds' (q_law_draw_7 ds' size' coefs') h.2)
theorem r_law_draw_2 {j0 : Option Cel} {j1 : Option Cel} {j4 : Option Cel} {j5 : Option Cel} (ds' : List Int) (size' : Int) (h : v_law_draw_2 ds' size') : RtOk (b_law_draw_5 [j0, j1, cO (ds'.map qI), cD (qI size'), j4, j5]) (fun r x => x = .fro (qT2 (qL qI) qI r)) (q_law_draw_2 ds' size') :=
  RtOk.of (sq_nx (ρ' := [_, _, cO (ds'.map qI), cD (qI size'), cO (([] : List Int).map qI), _]) (st_set (ev_lst av_nil) rfl rfl)) (r_law_draw_3 ds' size' ([] : List Int) h)
theorem r_law_draw_1 {j0 : Option Cel} {j3 : Option Cel} {j4 : Option Cel} {j5 : Option Cel} (most' : Int) (ds' : List Int) (h : v_law_draw_1 most' ds') : RtOk (b_law_draw_6 [j0, cD (qI most'), cO (ds'.map qI), j3, j4, j5]) (fun r x => x = .fro (qT2 (qL qI) qI r)) (q_law_draw_1 most' ds') :=
  RtOk.of (sq_nx (ρ' := [_, cD (qI most'), cO (ds'.map qI), cD (qI (Int.fmod (gt ds' (0 : Int)) (most' + (2 : Int)))), _, _]) (st_set (ev_e2 (ev_e1 (ev_e2 ev_own ev_c (g_ix (k := .bor) (e := qI) h.1)) rfl) (ev_e2 ev_fro ev_c rfl) (g_mod h.2.1)) rfl rfl)) (r_law_draw_2 ds' (Int.fmod (gt ds' (0 : Int)) (most' + (2 : Int))) h.2.2)
theorem r_law_draw_0 {j2 : Option Cel} {j3 : Option Cel} {j4 : Option Cel} {j5 : Option Cel} (cell_here' : Int) (most' : Int) (h : v_law_draw_0 cell_here' most') : RtOk (b_law_draw_7 [cD (qI cell_here'), cD (qI most'), j2, j3, j4, j5]) (fun r x => x = .fro (qT2 (qL qI) qI r)) (q_law_draw_0 cell_here' most') :=
  RtOk.of (sq_nx (ρ' := [cD (qI cell_here'), cD (qI most'), cO ((q_law_digits cell_here' (228 : Int) (most' + (3 : Int))).map qI), _, _, _]) (st_set (ev_call (r_law_digits cell_here' (228 : Int) (most' + (3 : Int)) h.1) (av_cons ev_fro rfl (av_cons ev_c rfl (av_cons (ev_e2 ev_fro ev_c rfl) rfl av_nil)))) rfl rfl)) (r_law_draw_1 most' (q_law_digits cell_here' (228 : Int) (most' + (3 : Int))) h.2)
theorem r_law_draw (cell_here' : Int) (most' : Int) (h : v_law_draw cell_here' most') : f_law_draw [qI cell_here', qI most'] = some (.ok (.fro (qT2 (qL qI) qI (q_law_draw cell_here' most')))) :=
  fn_F (e := qT2 (qL qI) qI) (r_law_draw_0 cell_here' most' h)
noncomputable def q_law_drawn_2 (order' : Int) (parts' : List ((List Int) × Int)) : (List ((List Int) × Int)) :=
  setT parts' order' ([(1 : Int)], (1 : Int))
def v_law_drawn_2 (order' : Int) (parts' : List ((List Int) × Int)) : Prop :=
  inR parts' order'
noncomputable def q_law_drawn_3 (order' : Int) (parts' : List ((List Int) × Int)) : (List ((List Int) × Int)) :=
  if ((decide ((parts'.length : Int) > (0 : Int))) && (decide ((((gt parts' order').1).length : Int) = (0 : Int)))) then q_law_drawn_2 order' parts' else parts'
noncomputable def q_law_drawn_4 (parts' : List ((List Int) × Int)) : List ((List Int) × Int) :=
  parts'
noncomputable def q_law_drawn_1 (order' : Int) (parts' : List ((List Int) × Int)) : List ((List Int) × Int) :=
  q_law_drawn_4 (q_law_drawn_3 order' parts')
def v_law_drawn_1 (order' : Int) (parts' : List ((List Int) × Int)) : Prop :=
  (((decide ((parts'.length : Int) > (0 : Int))) = true → inR parts' order') ∧ (((decide ((parts'.length : Int) > (0 : Int))) && (decide ((((gt parts' order').1).length : Int) = (0 : Int)))) = true → v_law_drawn_2 order' parts'))
noncomputable def q_law_drawn_0 (script' : List Int) (at_here' : Int) (order' : Int) (most' : Int) : List ((List Int) × Int) :=
  q_law_drawn_1 order' ((rngT 0 (order' + (1 : Int))).map fun (x1 : Int) => q_law_draw (q_law_cell script' (at_here' + x1)) most')
def v_law_drawn_0 (script' : List Int) (at_here' : Int) (order' : Int) (most' : Int) : Prop :=
  (rOk (order' + (1 : Int)) = true ∧ (∀ x1, x1 ∈ (rngT 0 (order' + (1 : Int))) → (v_law_cell script' (at_here' + x1) ∧ v_law_draw (q_law_cell script' (at_here' + x1)) most')) ∧ (rngT 0 (order' + (1 : Int))).length ≤ LINE ∧ v_law_drawn_1 order' ((rngT 0 (order' + (1 : Int))).map fun (x1 : Int) => q_law_draw (q_law_cell script' (at_here' + x1)) most'))
noncomputable def q_law_drawn (script' : List Int) (at_here' : Int) (order' : Int) (most' : Int) : List ((List Int) × Int) :=
  q_law_drawn_0 script' at_here' order' most'
def v_law_drawn (script' : List Int) (at_here' : Int) (order' : Int) (most' : Int) : Prop :=
  v_law_drawn_0 script' at_here' order' most'
theorem r_law_drawn_2 {j0 : Option Cel} {j1 : Option Cel} {j3 : Option Cel} {j5 : Option Cel} (order' : Int) (parts' : List ((List Int) × Int)) (h : v_law_drawn_2 order' parts') : NxOk (b_law_drawn_0 [j0, j1, cD (qI order'), j3, cO (parts'.map (qT2 (qL qI) qI)), j5]) (fun (s : (List ((List Int) × Int))) w => ∃ (j0 : Option Cel) (j1 : Option Cel) (j2 : Option Cel) (j3 : Option Cel) (j5 : Option Cel), w = [j0, j1, j2, j3, cO (s.map (qT2 (qL qI) qI)), j5]) (q_law_drawn_2 order' parts') :=
  nx_st (ρ' := [_, _, cD (qI order'), _, cO ((setT parts' order' ([(1 : Int)], (1 : Int))).map (qT2 (qL qI) qI)), _]) (st_ix (e := qT2 (qL qI) qI) rfl (ev_tup (av_cons (ev_lst (av_cons ev_c rfl av_nil) (Nat.le_of_ble_eq_true rfl)) rfl (av_cons ev_c rfl av_nil)) (Nat.le_of_ble_eq_true rfl)) rfl ev_fro h rfl) ⟨_, _, _, _, _, rfl⟩
theorem r_law_drawn_4 {j0 : Option Cel} {j1 : Option Cel} {j2 : Option Cel} {j3 : Option Cel} {j5 : Option Cel} (parts' : List ((List Int) × Int)) : RtOk (b_law_drawn_1 [j0, j1, j2, j3, cO (parts'.map (qT2 (qL qI) qI)), j5]) (fun r x => x = .own (r.map (qT2 (qL qI) qI))) (q_law_drawn_4 parts') :=
  rt_retO rfl rfl
theorem r_law_drawn_1 {j0 : Option Cel} {j1 : Option Cel} {j3 : Option Cel} {j5 : Option Cel} (order' : Int) (parts' : List ((List Int) × Int)) (h : v_law_drawn_1 order' parts') : RtOk (b_law_drawn_2 [j0, j1, cD (qI order'), j3, cO (parts'.map (qT2 (qL qI) qI)), j5]) (fun r x => x = .own (r.map (qT2 (qL qI) qI))) (q_law_drawn_1 order' parts') :=
  sq_NR (E := (fun (s : (List ((List Int) × Int))) w => ∃ (j0 : Option Cel) (j1 : Option Cel) (j2 : Option Cel) (j3 : Option Cel) (j5 : Option Cel), w = [j0, j1, j2, j3, cO (s.map (qT2 (qL qI) qI)), j5])) (q := q_law_drawn_3 order' parts') (nx_if (tv_and (tv_b (ev_e2 (ev_e1 ev_own (g_len (k := .bor))) ev_c rfl)) (fun hb3 => tv_b (ev_e2 (ev_e1 (ev_e2 (ev_e2 ev_own ev_fro (g_ix (k := .bor) (e := qT2 (qL qI) qI) (h.1 hb3))) ev_c rfl) (g_len (k := .fro))) ev_c g_eqI))) (fun hb4 => r_law_drawn_2 order' parts' (h.2 hb4)) (fun hb4 => nx_next ⟨_, _, _, _, _, rfl⟩)) (fun w hw => by obtain ⟨_, _, _, _, _, rfl⟩ := hw; exact r_law_drawn_4 (q_law_drawn_3 order' parts'))
theorem r_law_drawn_0 {j4 : Option Cel} {j5 : Option Cel} (script' : List Int) (at_here' : Int) (order' : Int) (most' : Int) (h : v_law_drawn_0 script' at_here' order' most') : RtOk (b_law_drawn_3 [cD (qL qI script'), cD (qI at_here'), cD (qI order'), cD (qI most'), j4, j5]) (fun r x => x = .own (r.map (qT2 (qL qI) qI))) (q_law_drawn_0 script' at_here' order' most') :=
  RtOk.of (sq_nx (ρ' := [cD (qL qI script'), cD (qI at_here'), cD (qI order'), cD (qI most'), cO (((rngT 0 (order' + (1 : Int))).map fun (x1 : Int) => q_law_draw (q_law_cell script' (at_here' + x1)) most').map (qT2 (qL qI) qI)), _]) (st_set (ev_lc (e := qI) (e' := qT2 (qL qI) qI) (F := fun (x1 : Int) => q_law_draw (q_law_cell script' (at_here' + x1)) most') (xs := rngT 0 (order' + (1 : Int))) (iv_r1 (ev_e2 ev_fro ev_c rfl) h.1) h.2.2.1 (fun x1 hx2 => ⟨[cD (qL qI script'), cD (qI at_here'), cD (qI order'), cD (qI most'), _, cD (qI x1)], _, rfl, ev_call (r_law_draw (q_law_cell script' (at_here' + x1)) most' (h.2.1 x1 hx2).2) (av_cons (ev_call (r_law_cell script' (at_here' + x1) (h.2.1 x1 hx2).1) (av_cons ev_fro rfl (av_cons (ev_e2 ev_fro ev_fro rfl) rfl av_nil))) rfl (av_cons ev_fro rfl av_nil)), rfl⟩)) rfl rfl)) (r_law_drawn_1 order' ((rngT 0 (order' + (1 : Int))).map fun (x1 : Int) => q_law_draw (q_law_cell script' (at_here' + x1)) most') h.2.2.2)
theorem r_law_drawn (script' : List Int) (at_here' : Int) (order' : Int) (most' : Int) (h : v_law_drawn script' at_here' order' most') : f_law_drawn [qL qI script', qI at_here', qI order', qI most'] = some (.ok (.own ((q_law_drawn script' at_here' order' most').map (qT2 (qL qI) qI)))) :=
  fn_O (r_law_drawn_0 script' at_here' order' most' h)
theorem r_law_cut_3 (parts' : List ((List Int) × Int)) (size' : Int) (k' : Int) : NxOk (b_law_cut_0 [cD (qL (qT2 (qL qI) qI) parts'), cD (qI size'), cD (qI k')]) (fun (s : Int) w => ∃ (j2 : Option Cel), w = [cD (qL (qT2 (qL qI) qI) parts'), cD (qI s), j2]) (q_law_cut_3 parts' size' k') :=
  nx_st (ρ' := [cD (qL (qT2 (qL qI) qI) parts'), cD (qI (k' + (1 : Int))), cD (qI k')]) (st_set (ev_e2 ev_fro ev_c rfl) rfl rfl) ⟨_, rfl⟩
theorem r_law_cut_2 (parts' : List ((List Int) × Int)) (size' : Int) (k' : Int) (h : v_law_cut_2 parts' size' k') : NxOk (b_law_cut_1 [cD (qL (qT2 (qL qI) qI) parts'), cD (qI size'), cD (qI k')]) (fun (s : Int) w => ∃ (j2 : Option Cel), w = [cD (qL (qT2 (qL qI) qI) parts'), cD (qI s), j2]) (q_law_cut_2 parts' size' k') :=
  nx_if (tv_b (ev_e2 (ev_e1 (ev_e2 (ev_e2 ev_fro ev_fro (g_ix (k := .fro) (e := qT2 (qL qI) qI) h)) ev_c rfl) (g_len (k := .fro))) ev_c rfl)) (fun hb1 => r_law_cut_3 parts' size' k') (fun hb1 => nx_next ⟨_, rfl⟩)
theorem r_law_cut_5 {j2 : Option Cel} (parts' : List ((List Int) × Int)) (size' : Int) : RtOk (b_law_cut_2 [cD (qL (qT2 (qL qI) qI) parts'), cD (qI size'), j2]) (fun r x => x = .own (r.map (qT2 (qL qI) qI))) (q_law_cut_5 parts' size') :=
  rt_ret (ev_sl (k := .fro) ev_fro ov_none (ov_some ev_fro)) rfl (by simp)
theorem r_law_cut_1 {j2 : Option Cel} (parts' : List ((List Int) × Int)) (size' : Int) (h : v_law_cut_1 parts' size') : RtOk (b_law_cut_3 [cD (qL (qT2 (qL qI) qI) parts'), cD (qI size'), j2]) (fun r x => x = .own (r.map (qT2 (qL qI) qI))) (q_law_cut_1 parts' size') :=
  sq_NR (E := (fun (s : Int) w => ∃ (j2 : Option Cel), w = [cD (qL (qT2 (qL qI) qI) parts'), cD (qI s), j2])) (q := q_law_cut_4 parts' size') (NxOk.of (sfor_eq (iv_r1 (ev_e1 ev_fro (g_len (k := .fro))) h.1)) (for_N (E := (fun (s : Int) w => ∃ (j2 : Option Cel), w = [cD (qL (qT2 (qL qI) qI) parts'), cD (qI s), j2])) (V := fun (s2 : Int) (x3 : Int) => v_law_cut_2 parts' s2 x3) (f := fun (s2 : Int) (x3 : Int) => q_law_cut_2 parts' s2 x3) (e := qI) (fun s2 x3 ρ hρ hv4 => by obtain ⟨_, rfl⟩ := hρ; exact ⟨_, rfl, r_law_cut_2 parts' s2 x3 hv4⟩) (rngT 0 (parts'.length : Int)) size' _ ⟨_, rfl⟩ h.2)) (fun w hw => by obtain ⟨_, rfl⟩ := hw; exact r_law_cut_5 parts' (q_law_cut_4 parts' size'))
theorem r_law_cut_0 {j1 : Option Cel} {j2 : Option Cel} (parts' : List ((List Int) × Int)) (h : v_law_cut_0 parts') : RtOk (b_law_cut_4 [cD (qL (qT2 (qL qI) qI) parts'), j1, j2]) (fun r x => x = .own (r.map (qT2 (qL qI) qI))) (q_law_cut_0 parts') :=
  RtOk.of (sq_nx (ρ' := [cD (qL (qT2 (qL qI) qI) parts'), cD (qI (0 : Int)), _]) (st_set ev_c rfl rfl)) (r_law_cut_1 parts' (0 : Int) h)
theorem r_law_cut (parts' : List ((List Int) × Int)) (h : v_law_cut parts') : f_law_cut [qL (qT2 (qL qI) qI) parts'] = some (.ok (.own ((q_law_cut parts').map (qT2 (qL qI) qI)))) :=
  fn_O (r_law_cut_0 parts' h)
noncomputable def q_law_pairs_0 (cell_here' : Int) (count' : Int) : List (Int × Int) :=
  ((q_law_digits cell_here' (76 : Int) count').map fun (x1 : Int) => (((Int.fmod x1 (19 : Int)) - (9 : Int)), ((Int.fmod (Int.fdiv x1 (19 : Int)) (4 : Int)) + (1 : Int))))
def v_law_pairs_0 (cell_here' : Int) (count' : Int) : Prop :=
  (v_law_digits cell_here' (76 : Int) count' ∧ (q_law_digits cell_here' (76 : Int) count').length ≤ LINE)
noncomputable def q_law_pairs (cell_here' : Int) (count' : Int) : List (Int × Int) :=
  q_law_pairs_0 cell_here' count'
def v_law_pairs (cell_here' : Int) (count' : Int) : Prop :=
  v_law_pairs_0 cell_here' count'
theorem r_law_pairs_0 {j2 : Option Cel} (cell_here' : Int) (count' : Int) (h : v_law_pairs_0 cell_here' count') : RtOk (b_law_pairs_0 [cD (qI cell_here'), cD (qI count'), j2]) (fun r x => x = .own (r.map (qT2 qI qI))) (q_law_pairs_0 cell_here' count') :=
  rt_ret (ev_lc (e := qI) (e' := qT2 qI qI) (F := fun (x1 : Int) => (((Int.fmod x1 (19 : Int)) - (9 : Int)), ((Int.fmod (Int.fdiv x1 (19 : Int)) (4 : Int)) + (1 : Int)))) (xs := q_law_digits cell_here' (76 : Int) count') (iv_k (k := .own) (ev_call (r_law_digits cell_here' (76 : Int) count' h.1) (av_cons ev_fro rfl (av_cons ev_c rfl (av_cons ev_fro rfl av_nil)))) (by simp)) h.2 (fun x1 hx2 => ⟨[cD (qI cell_here'), cD (qI count'), cD (qI x1)], _, rfl, ev_tup (av_cons (ev_e2 (ev_e2 (ev_e1 ev_fro rfl) ev_c (g_mod (by decide))) ev_c rfl) rfl (av_cons (ev_e2 (ev_e2 (ev_e1 (ev_e2 ev_fro ev_c (g_div (by decide))) rfl) ev_c (g_mod (by decide))) ev_c rfl) rfl av_nil)) (Nat.le_of_ble_eq_true rfl), rfl⟩)) rfl (by simp)
theorem r_law_pairs (cell_here' : Int) (count' : Int) (h : v_law_pairs cell_here' count') : f_law_pairs [qI cell_here', qI count'] = some (.ok (.own ((q_law_pairs cell_here' count').map (qT2 qI qI)))) :=
  fn_O (r_law_pairs_0 cell_here' count' h)
theorem r_Fraction_init_3 (num' : Int) (den' : Int) (divisor' : Int) : NxOk (b_Fraction_init_1 [some (.mk 20 []), cD (qI num'), cD (qI den'), cD (qI divisor')]) (fun (s : Int) w => w = [some (.mk 20 []), cD (qI num'), cD (qI den'), cD (qI s)]) (q_Fraction_init_3 num' den' divisor') :=
  nx_st (ρ' := [some (.mk 20 []), cD (qI num'), cD (qI den'), cD (qI (-divisor'))]) (st_set (ev_e1 ev_fro rfl) rfl rfl) rfl
theorem r_Fraction_init_6 {j1 : Option Cel} (den' : Int) (divisor' : Int) (sf_num : Int) (h : v_Fraction_init_6 den' divisor' sf_num) : NxOk (b_Fraction_init_2 [some (.mk 20 [qI sf_num]), j1, cD (qI den'), cD (qI divisor')]) (fun (s : Int × Int) w => ∃ (j1 : Option Cel) (j2 : Option Cel) (j3 : Option Cel), w = [some (.mk 20 [qI s.1, qI s.2]), j1, j2, j3]) (q_Fraction_init_6 den' divisor' sf_num) :=
  nx_st (ρ' := [some (.mk 20 [qI sf_num, qI (Int.fdiv den' divisor')]), _, cD (qI den'), cD (qI divisor')]) (st_fld rfl (ev_e2 ev_fro ev_fro (g_div h)) rfl rfl rfl) ⟨_, _, _, rfl⟩
theorem r_Fraction_init_5 (num' : Int) (den' : Int) (divisor' : Int) (h : v_Fraction_init_5 num' den' divisor') : NxOk (b_Fraction_init_3 [some (.mk 20 []), cD (qI num'), cD (qI den'), cD (qI divisor')]) (fun (s : Int × Int) w => ∃ (j1 : Option Cel) (j2 : Option Cel) (j3 : Option Cel), w = [some (.mk 20 [qI s.1, qI s.2]), j1, j2, j3]) (q_Fraction_init_5 num' den' divisor') :=
  NxOk.of (sq_nx (ρ' := [some (.mk 20 [qI (Int.fdiv num' divisor')]), cD (qI num'), cD (qI den'), cD (qI divisor')]) (st_fld rfl (ev_e2 ev_fro ev_fro (g_div h.1)) rfl rfl rfl)) (r_Fraction_init_6 den' divisor' (Int.fdiv num' divisor') h.2)
theorem r_Fraction_init_2 (num' : Int) (den' : Int) (divisor' : Int) (h : v_Fraction_init_2 num' den' divisor') : NxOk (b_Fraction_init_4 [some (.mk 20 []), cD (qI num'), cD (qI den'), cD (qI divisor')]) (fun (s : Int × Int) w => ∃ (j1 : Option Cel) (j2 : Option Cel) (j3 : Option Cel), w = [some (.mk 20 [qI s.1, qI s.2]), j1, j2, j3]) (q_Fraction_init_2 num' den' divisor') :=
  sq_NN (E := (fun (s : Int) w => w = [some (.mk 20 []), cD (qI num'), cD (qI den'), cD (qI s)])) (q := q_Fraction_init_4 num' den' divisor') (nx_if (tv_b (ev_e2 ev_fro ev_c rfl)) (fun hb2 => r_Fraction_init_3 num' den' divisor') (fun hb2 => nx_next rfl)) (fun w hw => by obtain rfl := hw; exact r_Fraction_init_5 num' den' (q_Fraction_init_4 num' den' divisor') h)
theorem r_Fraction_init_1 {j3 : Option Cel} (num' : Int) (den' : Int) (h : v_Fraction_init_1 num' den') : NxOk (b_Fraction_init_5 [some (.mk 20 []), cD (qI num'), cD (qI den'), j3]) (fun (s : Int × Int) w => ∃ (j1 : Option Cel) (j2 : Option Cel) (j3 : Option Cel), w = [some (.mk 20 [qI s.1, qI s.2]), j1, j2, j3]) (q_Fraction_init_1 num' den') :=
  NxOk.of (sq_nx (ρ' := [some (.mk 20 []), cD (qI num'), cD (qI den'), cD (qI (Int.gcd num' den' : Int))]) (st_set (ev_e2 ev_fro ev_fro g_gcd) rfl rfl)) (r_Fraction_init_2 num' den' (Int.gcd num' den' : Int) h)
theorem r_Fraction_init_0 {j3 : Option Cel} (num' : Int) (den' : Int) (h : v_Fraction_init_0 num' den') : NxOk (b_Fraction_init_6 [some (.mk 20 []), cD (qI num'), cD (qI den'), j3]) (fun (s : Int × Int) w => ∃ (j1 : Option Cel) (j2 : Option Cel) (j3 : Option Cel), w = [some (.mk 20 [qI s.1, qI s.2]), j1, j2, j3]) (q_Fraction_init_0 num' den') :=
  NxOk.of (sqi_f (tv_eq (tv_b (ev_e2 ev_fro ev_c g_eqI)) h.1)) (NxOk.of (sq_nx rfl) (r_Fraction_init_1 num' den' h.2))
theorem r_Fraction_init (num' : Int) (den' : Int) (h : v_Fraction_init num' den') : m_Fraction [qI num', qI den'] = some (.ok (.fro (qFr (q_Fraction_init num' den')))) :=
  fn_I (fs := [qI (q_Fraction_init_0 num' den').1, qI (q_Fraction_init_0 num' den').2]) (r_Fraction_init_0 num' den' h) (fun ρ hρ => by obtain ⟨_, _, _, rfl⟩ := hρ; rfl)
theorem r_law_vector_0 {j1 : Option Cel} (pairs_here' : List (Int × Int)) (h : v_law_vector_0 pairs_here') : RtOk (b_law_vector_0 [cD (qL (qT2 qI qI) pairs_here'), j1]) (fun r x => x = .own (r.map qFr)) (q_law_vector_0 pairs_here') :=
  rt_ret (ev_lc (e := qT2 qI qI) (e' := qFr) (F := fun (x1 : Int × Int) => q_Fraction_init x1.1 x1.2) (xs := pairs_here') (iv_k (k := .fro) ev_fro (by simp)) h.2 (fun x1 hx2 => ⟨[cD (qL (qT2 qI qI) pairs_here'), cD (qT2 qI qI x1)], _, rfl, ev_call (r_Fraction_init x1.1 x1.2 (h.1 x1 hx2)) (av_cons (ev_e2 ev_fro ev_c rfl) rfl (av_cons (ev_e2 ev_fro ev_c rfl) rfl av_nil)), rfl⟩)) rfl (by simp)
theorem r_law_vector (pairs_here' : List (Int × Int)) (h : v_law_vector pairs_here') : f_law_vector [qL (qT2 qI qI) pairs_here'] = some (.ok (.own ((q_law_vector pairs_here').map qFr))) :=
  fn_O (r_law_vector_0 pairs_here' h)
theorem r_trimmed_2 (numbers' : List Int) (size' : Int) : NxOk (b_trimmed_0 [cD (qL qI numbers'), cD (qI size')]) (fun (s : Int) w => w = [cD (qL qI numbers'), cD (qI s)]) (q_trimmed_2 numbers' size') :=
  nx_st (ρ' := [cD (qL qI numbers'), cD (qI (size' - (1 : Int)))]) (st_aug rfl ev_c rfl rfl rfl) rfl
theorem r_trimmed_4 (numbers' : List Int) (size' : Int) : RtOk (b_trimmed_1 [cD (qL qI numbers'), cD (qI size')]) (fun r x => x = .own (r.map qI)) (q_trimmed_4 numbers' size') :=
  rt_ret (ev_sl (k := .fro) ev_fro ov_none (ov_some ev_fro)) rfl (by simp)
theorem r_trimmed_1 (numbers' : List Int) (size' : Int) (h : v_trimmed_1 numbers' size') : RtOk (b_trimmed_2 [cD (qL qI numbers'), cD (qI size')]) (fun r x => x = .own (r.map qI)) (q_trimmed_1 numbers' size') :=
  sq_NR (E := (fun (s : Int) w => w = [cD (qL qI numbers'), cD (qI s)])) (q := q_trimmed_3 numbers' size') (while_N (E := (fun (s : Int) w => w = [cD (qL qI numbers'), cD (qI s)])) (t' := fun (s1 : Int) => ((decide (s1 > (0 : Int))) && (decide ((gt numbers' (s1 - (1 : Int))) = (0 : Int))))) (Vt := fun (s1 : Int) => ((decide (s1 > (0 : Int))) = true → inR numbers' (s1 - (1 : Int)))) (f := fun (s1 : Int) => q_trimmed_2 numbers' s1) (V := fun (s1 : Int) => True) (fun s1 ρ hρ hv2 => by obtain rfl := hρ; exact tv_and (tv_b (ev_e2 ev_fro ev_c rfl)) (fun hb3 => tv_b (ev_e2 (ev_e2 ev_fro (ev_e2 ev_fro ev_c rfl) (g_ix (k := .fro) (e := qI) (hv2 hb3))) ev_c g_eqI))) (fun s1 ρ hρ hv2 _ => by obtain rfl := hρ; exact r_trimmed_2 numbers' s1) rfl h) (fun w hw => by obtain rfl := hw; exact r_trimmed_4 numbers' (q_trimmed_3 numbers' size'))
theorem r_trimmed_0 {j1 : Option Cel} (numbers' : List Int) (h : v_trimmed_0 numbers') : RtOk (b_trimmed_3 [cD (qL qI numbers'), j1]) (fun r x => x = .own (r.map qI)) (q_trimmed_0 numbers') :=
  RtOk.of (sq_nx (ρ' := [cD (qL qI numbers'), cD (qI (numbers'.length : Int))]) (st_set (ev_e1 ev_fro (g_len (k := .fro))) rfl rfl)) (r_trimmed_1 numbers' (numbers'.length : Int) h)
theorem r_trimmed (numbers' : List Int) (h : v_trimmed numbers') : f_trimmed [qL qI numbers'] = some (.ok (.own ((q_trimmed numbers').map qI))) :=
  fn_O (r_trimmed_0 numbers' h)
theorem r_content_2 {j0 : Option Cel} (divisor' : Int) (number' : Int) : NxOk (b_content_0 [j0, cD (qI divisor'), cD (qI number')]) (fun (s : Int) w => ∃ (j0 : Option Cel) (j2 : Option Cel), w = [j0, cD (qI s), j2]) (q_content_2 divisor' number') :=
  nx_st (ρ' := [_, cD (qI (Int.gcd divisor' number' : Int)), cD (qI number')]) (st_set (ev_e2 ev_fro ev_fro g_gcd) rfl rfl) ⟨_, _, rfl⟩
theorem r_content_4 {j0 : Option Cel} {j2 : Option Cel} (divisor' : Int) : RtOk (b_content_1 [j0, cD (qI divisor'), j2]) (fun r x => x = .fro (qI r)) (q_content_4 divisor') :=
  rt_retF rfl rfl
theorem r_content_1 {j2 : Option Cel} (numbers' : List Int) (divisor' : Int) : RtOk (b_content_2 [cD (qL qI numbers'), cD (qI divisor'), j2]) (fun r x => x = .fro (qI r)) (q_content_1 numbers' divisor') :=
  sq_NR (E := (fun (s : Int) w => ∃ (j0 : Option Cel) (j2 : Option Cel), w = [j0, cD (qI s), j2])) (q := q_content_3 numbers' divisor') (NxOk.of (sfor_eq (iv_k (k := .fro) ev_fro (by simp))) (for_N (E := (fun (s : Int) w => ∃ (j0 : Option Cel) (j2 : Option Cel), w = [j0, cD (qI s), j2])) (V := fun _ _ => True) (f := fun (s1 : Int) (x2 : Int) => q_content_2 s1 x2) (e := qI) (fun s1 x2 ρ hρ hv3 => by obtain ⟨_, _, rfl⟩ := hρ; exact ⟨_, rfl, r_content_2 s1 x2⟩) numbers' divisor' _ ⟨_, _, rfl⟩ (forV_true _ _))) (fun w hw => by obtain ⟨_, _, rfl⟩ := hw; exact r_content_4 (q_content_3 numbers' divisor'))
theorem r_content_0 {j1 : Option Cel} {j2 : Option Cel} (numbers' : List Int) : RtOk (b_content_3 [cD (qL qI numbers'), j1, j2]) (fun r x => x = .fro (qI r)) (q_content_0 numbers') :=
  RtOk.of (sq_nx (ρ' := [cD (qL qI numbers'), cD (qI (0 : Int)), _]) (st_set ev_c rfl rfl)) (r_content_1 numbers' (0 : Int))
theorem r_content (numbers' : List Int) : f_content [qL qI numbers'] = some (.ok (.fro (qI (q_content numbers')))) :=
  fn_F (e := qI) (r_content_0 numbers')
theorem r_Poly_init_4 {j1 : Option Cel} {j5 : Option Cel} (den' : Int) (numbers' : List Int) (divisor' : Int) : NxOk (b_Poly_init_1 [some (.mk 21 []), j1, cD (qI den'), cO (numbers'.map qI), cD (qI divisor'), j5]) (fun (s : Int) w => ∃ (j1 : Option Cel) (j5 : Option Cel), w = [some (.mk 21 []), j1, cD (qI den'), cO (numbers'.map qI), cD (qI s), j5]) (q_Poly_init_4 den' numbers' divisor') :=
  nx_st (ρ' := [some (.mk 21 []), _, cD (qI den'), cO (numbers'.map qI), cD (qI (-divisor')), _]) (st_set (ev_e1 ev_fro rfl) rfl rfl) ⟨_, _, rfl⟩
theorem r_Poly_init_7 {j1 : Option Cel} {j3 : Option Cel} {j5 : Option Cel} (den' : Int) (divisor' : Int) (sf_coefs : List Int) (h : v_Poly_init_7 den' divisor' sf_coefs) : NxOk (b_Poly_init_2 [some (.mk 21 [qV qI sf_coefs]), j1, cD (qI den'), j3, cD (qI divisor'), j5]) (fun (s : (List Int) × Int) w => ∃ (j1 : Option Cel) (j2 : Option Cel) (j3 : Option Cel) (j4 : Option Cel) (j5 : Option Cel), w = [some (.mk 21 [qV qI s.1, qI s.2]), j1, j2, j3, j4, j5]) (q_Poly_init_7 den' divisor' sf_coefs) :=
  nx_st (ρ' := [some (.mk 21 [qV qI sf_coefs, qI (Int.fdiv den' divisor')]), _, cD (qI den'), _, cD (qI divisor'), _]) (st_fld rfl (ev_e2 ev_fro ev_fro (g_div h)) rfl rfl rfl) ⟨_, _, _, _, _, rfl⟩
theorem r_Poly_init_6 {j1 : Option Cel} {j5 : Option Cel} (den' : Int) (numbers' : List Int) (divisor' : Int) (h : v_Poly_init_6 den' numbers' divisor') : NxOk (b_Poly_init_3 [some (.mk 21 []), j1, cD (qI den'), cO (numbers'.map qI), cD (qI divisor'), j5]) (fun (s : (List Int) × Int) w => ∃ (j1 : Option Cel) (j2 : Option Cel) (j3 : Option Cel) (j4 : Option Cel) (j5 : Option Cel), w = [some (.mk 21 [qV qI s.1, qI s.2]), j1, j2, j3, j4, j5]) (q_Poly_init_6 den' numbers' divisor') :=
  NxOk.of (sq_nx (ρ' := [some (.mk 21 [qV qI (numbers'.map fun (x3 : Int) => (Int.fdiv x3 divisor'))]), _, cD (qI den'), cO (numbers'.map qI), cD (qI divisor'), _]) (st_fld rfl (ev_bor (ρ' := [some (.mk 21 []), _, cD (qI den'), cD (qL qI numbers'), cD (qI divisor'), _]) rfl rfl (ev_e1 (ev_lc (e := qI) (e' := qI) (F := fun (x3 : Int) => (Int.fdiv x3 divisor')) (xs := numbers') (iv_k (k := .fro) ev_fro (by simp)) h.2.1 (fun x3 hx4 => ⟨[some (.mk 21 []), _, cD (qI den'), cD (qL qI numbers'), cD (qI divisor'), cD (qI x3)], _, rfl, ev_e2 ev_fro ev_fro (g_div (h.1 x3 hx4)), rfl⟩)) (g_tuple (k := .own))) (nl_fro (e := qV qI) _)) rfl rfl rfl)) (r_Poly_init_7 den' divisor' (numbers'.map fun (x3 : Int) => (Int.fdiv x3 divisor')) h.2.2)
theorem r_Poly_init_3 {j1 : Option Cel} {j5 : Option Cel} (den' : Int) (numbers' : List Int) (divisor' : Int) (h : v_Poly_init_3 den' numbers' divisor') : NxOk (b_Poly_init_4 [some (.mk 21 []), j1, cD (qI den'), cO (numbers'.map qI), cD (qI divisor'), j5]) (fun (s : (List Int) × Int) w => ∃ (j1 : Option Cel) (j2 : Option Cel) (j3 : Option Cel) (j4 : Option Cel) (j5 : Option Cel), w = [some (.mk 21 [qV qI s.1, qI s.2]), j1, j2, j3, j4, j5]) (q_Poly_init_3 den' numbers' divisor') :=
  sq_NN (E := (fun (s : Int) w => ∃ (j1 : Option Cel) (j5 : Option Cel), w = [some (.mk 21 []), j1, cD (qI den'), cO (numbers'.map qI), cD (qI s), j5])) (q := q_Poly_init_5 den' numbers' divisor') (nx_if (tv_b (ev_e2 ev_fro ev_c rfl)) (fun hb2 => r_Poly_init_4 den' numbers' divisor') (fun hb2 => nx_next ⟨_, _, rfl⟩)) (fun w hw => by obtain ⟨_, _, rfl⟩ := hw; exact r_Poly_init_6 den' numbers' (q_Poly_init_5 den' numbers' divisor') h)
theorem r_Poly_init_2 {j1 : Option Cel} {j4 : Option Cel} {j5 : Option Cel} (den' : Int) (numbers' : List Int) (h : v_Poly_init_2 den' numbers') : NxOk (b_Poly_init_5 [some (.mk 21 []), j1, cD (qI den'), cO (numbers'.map qI), j4, j5]) (fun (s : (List Int) × Int) w => ∃ (j1 : Option Cel) (j2 : Option Cel) (j3 : Option Cel) (j4 : Option Cel) (j5 : Option Cel), w = [some (.mk 21 [qV qI s.1, qI s.2]), j1, j2, j3, j4, j5]) (q_Poly_init_2 den' numbers') :=
  NxOk.of (sq_nx (ρ' := [some (.mk 21 []), _, cD (qI den'), cO (numbers'.map qI), cD (qI (Int.gcd (q_content numbers') den' : Int)), _]) (st_set (ev_bor (ρ' := [some (.mk 21 []), _, cD (qI den'), cD (qL qI numbers'), _, _]) rfl rfl (ev_e2 (ev_call (r_content numbers') (av_cons ev_fro rfl av_nil)) ev_fro g_gcd) (nl_fro (e := qI) _)) rfl rfl)) (r_Poly_init_3 den' numbers' (Int.gcd (q_content numbers') den' : Int) h)
theorem r_Poly_init_1 {j3 : Option Cel} {j4 : Option Cel} {j5 : Option Cel} (coefs' : List Int) (den' : Int) (h : v_Poly_init_1 coefs' den') : NxOk (b_Poly_init_6 [some (.mk 21 []), cD (qL qI coefs'), cD (qI den'), j3, j4, j5]) (fun (s : (List Int) × Int) w => ∃ (j1 : Option Cel) (j2 : Option Cel) (j3 : Option Cel) (j4 : Option Cel) (j5 : Option Cel), w = [some (.mk 21 [qV qI s.1, qI s.2]), j1, j2, j3, j4, j5]) (q_Poly_init_1 coefs' den') :=
  NxOk.of (sq_nx (ρ' := [some (.mk 21 []), cD (qL qI coefs'), cD (qI den'), cO ((q_trimmed coefs').map qI), _, _]) (st_set (ev_call (r_trimmed coefs' h.1) (av_cons (ev_e1 ev_fro (g_list (k := .fro))) rfl av_nil)) rfl rfl)) (r_Poly_init_2 den' (q_trimmed coefs') h.2)
theorem r_Poly_init_0 {j3 : Option Cel} {j4 : Option Cel} {j5 : Option Cel} (coefs' : List Int) (den' : Int) (h : v_Poly_init_0 coefs' den') : NxOk (b_Poly_init_7 [some (.mk 21 []), cD (qL qI coefs'), cD (qI den'), j3, j4, j5]) (fun (s : (List Int) × Int) w => ∃ (j1 : Option Cel) (j2 : Option Cel) (j3 : Option Cel) (j4 : Option Cel) (j5 : Option Cel), w = [some (.mk 21 [qV qI s.1, qI s.2]), j1, j2, j3, j4, j5]) (q_Poly_init_0 coefs' den') :=
  NxOk.of (sqi_f (tv_eq (tv_b (ev_e2 ev_fro ev_c g_eqI)) h.1)) (NxOk.of (sq_nx rfl) (r_Poly_init_1 coefs' den' h.2))
theorem r_Poly_init (coefs' : List Int) (den' : Int) (h : v_Poly_init coefs' den') : m_Poly [qL qI coefs', qI den'] = some (.ok (.fro (qPo (q_Poly_init coefs' den')))) :=
  fn_I (fs := [qV qI (q_Poly_init_0 coefs' den').1, qI (q_Poly_init_0 coefs' den').2]) (r_Poly_init_0 coefs' den' h) (fun ρ hρ => by obtain ⟨_, _, _, _, _, rfl⟩ := hρ; rfl)
theorem r_law_poly_0 (part' : (List Int) × Int) (h : v_law_poly_0 part') : RtOk (b_law_poly_0 [cD (qT2 (qL qI) qI part')]) (fun r x => x = .fro (qPo r)) (q_law_poly_0 part') :=
  rt_ret (ev_call (r_Poly_init part'.1 part'.2 h) (av_cons (ev_e1 (ev_e2 ev_fro ev_c rfl) (g_list (k := .fro))) rfl (av_cons (ev_e2 ev_fro ev_c rfl) rfl av_nil))) rfl (by simp)
theorem r_law_poly (part' : (List Int) × Int) (h : v_law_poly part') : f_law_poly [qT2 (qL qI) qI part'] = some (.ok (.fro (qPo (q_law_poly part')))) :=
  fn_F (e := qPo) (r_law_poly_0 part' h)
theorem r_Poly_is_zero_0 (self' : Po) : RtOk (b_Poly_is_zero_0 [cD (qPo self')]) (fun r x => x = .fro (qB r)) (q_Poly_is_zero_0 self') :=
  rt_ret (ev_e2 (ev_e1 (ev_e1 ev_fro (by first | exact g_fld rfl rfl | exact g_attF rfl rfl)) g_lenV) ev_c g_eqI) rfl (by simp)
theorem r_Poly_is_zero (self' : Po) : f_Poly_is_zero [qPo self'] = some (.ok (.fro (qB (q_Poly_is_zero self')))) :=
  fn_F (e := qB) (r_Poly_is_zero_0 self')
theorem r_Operator_init_2 {j1 : Option Cel} (kept' : List Po) (h : v_Operator_init_2 kept') : NxOk (b_Operator_init_0 [some (.mk 26 []), j1, cO (kept'.map qPo)]) (fun (s : (List Po)) w => ∃ (j1 : Option Cel), w = [some (.mk 26 []), j1, cO (s.map qPo)]) (q_Operator_init_2 kept') :=
  nx_st (ρ' := [some (.mk 26 []), _, cO (kept'.dropLast.map qPo)]) (st_pop (e := qPo) rfl h rfl) ⟨_, rfl⟩
theorem r_Operator_init_4 {j1 : Option Cel} (kept' : List Po) : NxOk (b_Operator_init_1 [some (.mk 26 []), j1, cO (kept'.map qPo)]) (fun (s : (List Po)) w => ∃ (j1 : Option Cel) (j2 : Option Cel), w = [some (.mk 26 [qV qPo s]), j1, j2]) (q_Operator_init_4 kept') :=
  nx_st (ρ' := [some (.mk 26 [qV qPo kept']), _, cO (kept'.map qPo)]) (st_fld rfl (ev_e1 ev_own (g_tuple (k := .bor))) rfl rfl rfl) ⟨_, _, rfl⟩
theorem r_Operator_init_1 {j1 : Option Cel} (kept' : List Po) (h : v_Operator_init_1 kept') : NxOk (b_Operator_init_2 [some (.mk 26 []), j1, cO (kept'.map qPo)]) (fun (s : (List Po)) w => ∃ (j1 : Option Cel) (j2 : Option Cel), w = [some (.mk 26 [qV qPo s]), j1, j2]) (q_Operator_init_1 kept') :=
  sq_NN (E := (fun (s : (List Po)) w => ∃ (j1 : Option Cel), w = [some (.mk 26 []), j1, cO (s.map qPo)])) (q := q_Operator_init_3 kept') (while_N (E := (fun (s : (List Po)) w => ∃ (j1 : Option Cel), w = [some (.mk 26 []), j1, cO (s.map qPo)])) (t' := fun (s1 : (List Po)) => ((decide ((s1.length : Int) > (0 : Int))) && (q_Poly_is_zero (gt s1 (-(1 : Int)))))) (Vt := fun (s1 : (List Po)) => ((decide ((s1.length : Int) > (0 : Int))) = true → inR s1 (-(1 : Int)))) (f := fun (s1 : (List Po)) => q_Operator_init_2 s1) (V := fun (s1 : (List Po)) => v_Operator_init_2 s1) (fun s1 ρ hρ hv2 => by obtain ⟨_, rfl⟩ := hρ; exact tv_and (tv_b (ev_e2 (ev_e1 ev_own (g_len (k := .bor))) ev_c rfl)) (fun hb3 => tv_tru (ev_e1 (ev_e2 ev_own (ev_e1 ev_c rfl) (g_ix (k := .bor) (e := qPo) (hv2 hb3))) (g_attP (r_Poly_is_zero (gt s1 (-(1 : Int)))) rfl rfl rfl)) rfl)) (fun s1 ρ hρ hv2 _ => by obtain ⟨_, rfl⟩ := hρ; exact r_Operator_init_2 s1 hv2) ⟨_, rfl⟩ h) (fun w hw => by obtain ⟨_, rfl⟩ := hw; exact r_Operator_init_4 (q_Operator_init_3 kept'))
theorem r_Operator_init_0 {j2 : Option Cel} (coefs' : List Po) (h : v_Operator_init_0 coefs') : NxOk (b_Operator_init_3 [some (.mk 26 []), cD (qL qPo coefs'), j2]) (fun (s : (List Po)) w => ∃ (j1 : Option Cel) (j2 : Option Cel), w = [some (.mk 26 [qV qPo s]), j1, j2]) (q_Operator_init_0 coefs') :=
  NxOk.of (sq_nx (ρ' := [some (.mk 26 []), cD (qL qPo coefs'), cO (coefs'.map qPo)]) (st_set (ev_e1 ev_fro (g_list (k := .fro))) rfl rfl)) (r_Operator_init_1 coefs' h)
theorem r_Operator_init (coefs' : List Po) (h : v_Operator_init coefs') : m_Operator [qL qPo coefs'] = some (.ok (.fro (qOpr (q_Operator_init coefs')))) :=
  fn_I (fs := [qV qPo (q_Operator_init_0 coefs')]) (r_Operator_init_0 coefs' h) (fun ρ hρ => by obtain ⟨_, _, rfl⟩ := hρ; rfl)
theorem r_law_operator_0 {j1 : Option Cel} (parts' : List ((List Int) × Int)) (h : v_law_operator_0 parts') : RtOk (b_law_operator_0 [cD (qL (qT2 (qL qI) qI) parts'), j1]) (fun r x => x = .fro (qOpr r)) (q_law_operator_0 parts') :=
  rt_ret (ev_call (r_Operator_init (parts'.map fun (x1 : (List Int) × Int) => q_law_poly x1) h.2.2) (av_cons (ev_lc (e := qT2 (qL qI) qI) (e' := qPo) (F := fun (x1 : (List Int) × Int) => q_law_poly x1) (xs := parts') (iv_k (k := .fro) ev_fro (by simp)) h.2.1 (fun x1 hx2 => ⟨[cD (qL (qT2 (qL qI) qI) parts'), cD (qT2 (qL qI) qI x1)], _, rfl, ev_call (r_law_poly x1 (h.1 x1 hx2)) (av_cons ev_fro rfl av_nil), rfl⟩)) rfl av_nil)) rfl (by simp)
theorem r_law_operator (parts' : List ((List Int) × Int)) (h : v_law_operator parts') : f_law_operator [qL (qT2 (qL qI) qI) parts'] = some (.ok (.fro (qOpr (q_law_operator parts')))) :=
  fn_F (e := qOpr) (r_law_operator_0 parts' h)
theorem r_Poly_at_2 (self' : Po) (k' : Int) (total' : Int) (number' : Int) (h : v_Poly_at_2 self' k' total' number') : NxOk (b_Poly_at_0 [cD (qPo self'), cD (qI k'), cD (qI total'), cD (qI number')]) (fun (s : Int) w => ∃ (j3 : Option Cel), w = [cD (qPo self'), cD (qI k'), cD (qI s), j3]) (q_Poly_at_2 self' k' total' number') :=
  nx_st (ρ' := [cD (qPo self'), cD (qI k'), cD (qI ((total' * k') + number')), cD (qI number')]) (st_set (ev_e2 (ev_e2 ev_fro ev_fro (g_mul h)) ev_fro rfl) rfl rfl) ⟨_, rfl⟩
theorem r_Poly_at_4 {j1 : Option Cel} {j3 : Option Cel} (self' : Po) (total' : Int) (h : v_Poly_at_4 self' total') : RtOk (b_Poly_at_1 [cD (qPo self'), j1, cD (qI total'), j3]) (fun r x => x = .fro (qFr r)) (q_Poly_at_4 self' total') :=
  rt_ret (ev_call (r_Fraction_init total' self'.den h) (av_cons ev_fro rfl (av_cons (ev_e1 ev_fro (by first | exact g_fld rfl rfl | exact g_attF rfl rfl)) rfl av_nil))) rfl (by simp)
theorem r_Poly_at_1 {j3 : Option Cel} (self' : Po) (k' : Int) (total' : Int) (h : v_Poly_at_1 self' k' total') : RtOk (b_Poly_at_2 [cD (qPo self'), cD (qI k'), cD (qI total'), j3]) (fun r x => x = .fro (qFr r)) (q_Poly_at_1 self' k' total') :=
  sq_NR (E := (fun (s : Int) w => ∃ (j3 : Option Cel), w = [cD (qPo self'), cD (qI k'), cD (qI s), j3])) (q := q_Poly_at_3 self' k' total') (NxOk.of (sfor_eq (iv_revV (ev_e1 ev_fro (by first | exact g_fld rfl rfl | exact g_attF rfl rfl)))) (for_N (E := (fun (s : Int) w => ∃ (j3 : Option Cel), w = [cD (qPo self'), cD (qI k'), cD (qI s), j3])) (V := fun (s1 : Int) (x2 : Int) => v_Poly_at_2 self' k' s1 x2) (f := fun (s1 : Int) (x2 : Int) => q_Poly_at_2 self' k' s1 x2) (e := qI) (fun s1 x2 ρ hρ hv3 => by obtain ⟨_, rfl⟩ := hρ; exact ⟨_, rfl, r_Poly_at_2 self' k' s1 x2 hv3⟩) self'.coefs.reverse total' _ ⟨_, rfl⟩ h.1)) (fun w hw => by obtain ⟨_, rfl⟩ := hw; exact r_Poly_at_4 self' (q_Poly_at_3 self' k' total') h.2)
theorem r_Poly_at_0 {j2 : Option Cel} {j3 : Option Cel} (self' : Po) (k' : Int) (h : v_Poly_at_0 self' k') : RtOk (b_Poly_at_3 [cD (qPo self'), cD (qI k'), j2, j3]) (fun r x => x = .fro (qFr r)) (q_Poly_at_0 self' k') :=
  RtOk.of (sq_nx (ρ' := [cD (qPo self'), cD (qI k'), cD (qI (0 : Int)), _]) (st_set ev_c rfl rfl)) (r_Poly_at_1 self' k' (0 : Int) h)
theorem r_Poly_at (self' : Po) (k' : Int) (h : v_Poly_at self' k') : f_Poly_at [qPo self', qI k'] = some (.ok (.fro (qFr (q_Poly_at self' k')))) :=
  fn_F (e := qFr) (r_Poly_at_0 self' k' h)
theorem r_Fraction_mul_0 (self' : Fr) (other' : Fr) (h : v_Fraction_mul_0 self' other') : RtOk (b_Fraction_mul_0 [cD (qFr self'), cD (qFr other')]) (fun r x => x = .fro (qFr r)) (q_Fraction_mul_0 self' other') :=
  rt_ret (ev_call (r_Fraction_init (self'.num * other'.num) (self'.den * other'.den) h.2.2) (av_cons (ev_e2 (ev_e1 ev_fro (by first | exact g_fld rfl rfl | exact g_attF rfl rfl)) (ev_e1 ev_fro (by first | exact g_fld rfl rfl | exact g_attF rfl rfl)) (g_mul h.1)) rfl (av_cons (ev_e2 (ev_e1 ev_fro (by first | exact g_fld rfl rfl | exact g_attF rfl rfl)) (ev_e1 ev_fro (by first | exact g_fld rfl rfl | exact g_attF rfl rfl)) (g_mul h.2.1)) rfl av_nil))) rfl (by simp)
theorem r_Fraction_mul (self' : Fr) (other' : Fr) (h : v_Fraction_mul self' other') : f_Fraction_mul [qFr self', qFr other'] = some (.ok (.fro (qFr (q_Fraction_mul self' other')))) :=
  fn_F (e := qFr) (r_Fraction_mul_0 self' other' h)
theorem r_Fraction_add_0 (self' : Fr) (other' : Fr) (h : v_Fraction_add_0 self' other') : RtOk (b_Fraction_add_0 [cD (qFr self'), cD (qFr other')]) (fun r x => x = .fro (qFr r)) (q_Fraction_add_0 self' other') :=
  rt_ret (ev_call (r_Fraction_init ((self'.num * other'.den) + (other'.num * self'.den)) (self'.den * other'.den) h.2.2.2) (av_cons (ev_e2 (ev_e2 (ev_e1 ev_fro (by first | exact g_fld rfl rfl | exact g_attF rfl rfl)) (ev_e1 ev_fro (by first | exact g_fld rfl rfl | exact g_attF rfl rfl)) (g_mul h.1)) (ev_e2 (ev_e1 ev_fro (by first | exact g_fld rfl rfl | exact g_attF rfl rfl)) (ev_e1 ev_fro (by first | exact g_fld rfl rfl | exact g_attF rfl rfl)) (g_mul h.2.1)) rfl) rfl (av_cons (ev_e2 (ev_e1 ev_fro (by first | exact g_fld rfl rfl | exact g_attF rfl rfl)) (ev_e1 ev_fro (by first | exact g_fld rfl rfl | exact g_attF rfl rfl)) (g_mul h.2.2.1)) rfl av_nil))) rfl (by simp)
theorem r_Fraction_add (self' : Fr) (other' : Fr) (h : v_Fraction_add self' other') : f_Fraction_add [qFr self', qFr other'] = some (.ok (.fro (qFr (q_Fraction_add self' other')))) :=
  fn_F (e := qFr) (r_Fraction_add_0 self' other' h)
theorem r_Operator_apply_at_2 {j0 : Option Cel} (values' : List Fr) (n' : Int) (total' : Fr) (j' : Int) (p' : Po) (h : v_Operator_apply_at_2 values' n' total' j' p') : NxOk (b_Operator_apply_at_0 [j0, cD (qL qFr values'), cD (qI n'), cD (qFr total'), cD (qI j'), cD (qPo p')]) (fun (s : Fr) w => ∃ (j0 : Option Cel) (j4 : Option Cel) (j5 : Option Cel), w = [j0, cD (qL qFr values'), cD (qI n'), cD (qFr s), j4, j5]) (q_Operator_apply_at_2 values' n' total' j' p') :=
  nx_st (ρ' := [_, cD (qL qFr values'), cD (qI n'), cD (qFr (q_Fraction_add total' (q_Fraction_mul (q_Poly_at p' n') (gt values' (n' + j'))))), cD (qI j'), cD (qPo p')]) (st_set (ev_e2 ev_fro (ev_e2 (ev_meth (gD := (fun ds => ds)) (r_Poly_at p' n' h.1) ev_fro (av_cons ev_fro rfl av_nil) rfl rfl rfl) (ev_e2 ev_fro (ev_e2 ev_fro ev_fro rfl) (g_ix (k := .fro) (e := qFr) h.2.1)) (g_own (r_Fraction_mul (q_Poly_at p' n') (gt values' (n' + j')) h.2.2.1) rfl rfl rfl)) (g_own (r_Fraction_add total' (q_Fraction_mul (q_Poly_at p' n') (gt values' (n' + j'))) h.2.2.2) rfl rfl rfl)) rfl rfl) ⟨_, _, _, rfl⟩
theorem r_Operator_apply_at_4 {j0 : Option Cel} {j1 : Option Cel} {j2 : Option Cel} {j4 : Option Cel} {j5 : Option Cel} (total' : Fr) : RtOk (b_Operator_apply_at_1 [j0, j1, j2, cD (qFr total'), j4, j5]) (fun r x => x = .fro (qFr r)) (q_Operator_apply_at_4 total') :=
  rt_retF rfl rfl
theorem r_Operator_apply_at_1 {j4 : Option Cel} {j5 : Option Cel} (self' : Opr) (values' : List Fr) (n' : Int) (total' : Fr) (h : v_Operator_apply_at_1 self' values' n' total') : RtOk (b_Operator_apply_at_2 [cD (qOpr self'), cD (qL qFr values'), cD (qI n'), cD (qFr total'), j4, j5]) (fun r x => x = .fro (qFr r)) (q_Operator_apply_at_1 self' values' n' total') :=
  sq_NR (E := (fun (s : Fr) w => ∃ (j0 : Option Cel) (j4 : Option Cel) (j5 : Option Cel), w = [j0, cD (qL qFr values'), cD (qI n'), cD (qFr s), j4, j5])) (q := q_Operator_apply_at_3 self' values' n' total') (NxOk.of (sfor_eq (iv_enV (ev_e1 ev_fro (by first | exact g_fld rfl rfl | exact g_attF rfl rfl)))) (for_N (E := (fun (s : Fr) w => ∃ (j0 : Option Cel) (j4 : Option Cel) (j5 : Option Cel), w = [j0, cD (qL qFr values'), cD (qI n'), cD (qFr s), j4, j5])) (V := fun (s1 : Fr) (x2 : Int × Po) => v_Operator_apply_at_2 values' n' s1 x2.1 x2.2) (f := fun (s1 : Fr) (x2 : Int × Po) => q_Operator_apply_at_2 values' n' s1 x2.1 x2.2) (e := qT2 qI qPo) (fun s1 x2 ρ hρ hv3 => by obtain ⟨_, _, _, rfl⟩ := hρ; exact ⟨_, rfl, r_Operator_apply_at_2 values' n' s1 x2.1 x2.2 hv3⟩) (enT self'.coefs) total' _ ⟨_, _, _, rfl⟩ h)) (fun w hw => by obtain ⟨_, _, _, rfl⟩ := hw; exact r_Operator_apply_at_4 (q_Operator_apply_at_3 self' values' n' total'))
theorem r_Operator_apply_at_0 {j3 : Option Cel} {j4 : Option Cel} {j5 : Option Cel} (self' : Opr) (values' : List Fr) (n' : Int) (h : v_Operator_apply_at_0 self' values' n') : RtOk (b_Operator_apply_at_3 [cD (qOpr self'), cD (qL qFr values'), cD (qI n'), j3, j4, j5]) (fun r x => x = .fro (qFr r)) (q_Operator_apply_at_0 self' values' n') :=
  RtOk.of (sq_nx (ρ' := [cD (qOpr self'), cD (qL qFr values'), cD (qI n'), cD (qFr (q_Fraction_init (0 : Int) (1 : Int))), _, _]) (st_set (ev_call (r_Fraction_init (0 : Int) (1 : Int) h.1) (av_cons ev_c rfl av_nil)) rfl rfl)) (r_Operator_apply_at_1 self' values' n' (q_Fraction_init (0 : Int) (1 : Int)) h.2)
theorem r_Operator_apply_at (self' : Opr) (values' : List Fr) (n' : Int) (h : v_Operator_apply_at self' values' n') : f_Operator_apply_at [qOpr self', qL qFr values', qI n'] = some (.ok (.fro (qFr (q_Operator_apply_at self' values' n')))) :=
  fn_F (e := qFr) (r_Operator_apply_at_0 self' values' n' h)
noncomputable def q_law_at_x2_2 (k' : Int) (total' : Int) (x' : Int) : Int :=
  ((total' * k') + x')
def v_law_at_x2_2 (k' : Int) (total' : Int) (x' : Int) : Prop :=
  mulOk total' k' = true
noncomputable def q_law_at_x2_3 (xs' : List Int) (k' : Int) (total' : Int) : Int :=
  xs'.reverse.foldl (fun (s1 : Int) (x2 : Int) => q_law_at_x2_2 k' s1 x2) total'
noncomputable def q_law_at_x2_4 (total' : Int) : Int :=
  total'
noncomputable def q_law_at_x2_1 (xs' : List Int) (k' : Int) (total' : Int) : Int :=
  q_law_at_x2_4 (q_law_at_x2_3 xs' k' total')
def v_law_at_x2_1 (xs' : List Int) (k' : Int) (total' : Int) : Prop :=
  forV (fun (s1 : Int) (x2 : Int) => v_law_at_x2_2 k' s1 x2) (fun (s1 : Int) (x2 : Int) => q_law_at_x2_2 k' s1 x2) xs'.reverse total'
noncomputable def q_law_at_x2_0 (xs' : List Int) (k' : Int) : Int :=
  q_law_at_x2_1 xs' k' (0 : Int)
def v_law_at_x2_0 (xs' : List Int) (k' : Int) : Prop :=
  v_law_at_x2_1 xs' k' (0 : Int)
noncomputable def q_law_at_x2 (xs' : List Int) (k' : Int) : Int :=
  q_law_at_x2_0 xs' k'
def v_law_at_x2 (xs' : List Int) (k' : Int) : Prop :=
  v_law_at_x2_0 xs' k'
theorem r_law_at_x2_2 {j0 : Option Cel} (k' : Int) (total' : Int) (x' : Int) (h : v_law_at_x2_2 k' total' x') : NxOk (b_law_at_0 [j0, cD (qI k'), cD (qI total'), cD (qI x')]) (fun (s : Int) w => ∃ (j0 : Option Cel) (j3 : Option Cel), w = [j0, cD (qI k'), cD (qI s), j3]) (q_law_at_x2_2 k' total' x') :=
  nx_st (ρ' := [_, cD (qI k'), cD (qI ((total' * k') + x')), cD (qI x')]) (st_set (ev_e2 (ev_e2 ev_fro ev_fro (g_mul h)) ev_fro rfl) rfl rfl) ⟨_, _, rfl⟩
theorem r_law_at_x2_4 {j0 : Option Cel} {j1 : Option Cel} {j3 : Option Cel} (total' : Int) : RtOk (b_law_at_1 [j0, j1, cD (qI total'), j3]) (fun r x => x = .fro (qI r)) (q_law_at_x2_4 total') :=
  rt_retF rfl rfl
theorem r_law_at_x2_1 {j3 : Option Cel} (xs' : List Int) (k' : Int) (total' : Int) (h : v_law_at_x2_1 xs' k' total') : RtOk (b_law_at_2 [cD (qL qI xs'), cD (qI k'), cD (qI total'), j3]) (fun r x => x = .fro (qI r)) (q_law_at_x2_1 xs' k' total') :=
  sq_NR (E := (fun (s : Int) w => ∃ (j0 : Option Cel) (j3 : Option Cel), w = [j0, cD (qI k'), cD (qI s), j3])) (q := q_law_at_x2_3 xs' k' total') (NxOk.of (sfor_eq (iv_revK (k := .fro) ev_fro (by simp))) (for_N (E := (fun (s : Int) w => ∃ (j0 : Option Cel) (j3 : Option Cel), w = [j0, cD (qI k'), cD (qI s), j3])) (V := fun (s1 : Int) (x2 : Int) => v_law_at_x2_2 k' s1 x2) (f := fun (s1 : Int) (x2 : Int) => q_law_at_x2_2 k' s1 x2) (e := qI) (fun s1 x2 ρ hρ hv3 => by obtain ⟨_, _, rfl⟩ := hρ; exact ⟨_, rfl, r_law_at_x2_2 k' s1 x2 hv3⟩) xs'.reverse total' _ ⟨_, _, rfl⟩ h)) (fun w hw => by obtain ⟨_, _, rfl⟩ := hw; exact r_law_at_x2_4 (q_law_at_x2_3 xs' k' total'))
theorem r_law_at_x2_0 {j2 : Option Cel} {j3 : Option Cel} (xs' : List Int) (k' : Int) (h : v_law_at_x2_0 xs' k') : RtOk (b_law_at_3 [cD (qL qI xs'), cD (qI k'), j2, j3]) (fun r x => x = .fro (qI r)) (q_law_at_x2_0 xs' k') :=
  RtOk.of (sq_nx (ρ' := [cD (qL qI xs'), cD (qI k'), cD (qI (0 : Int)), _]) (st_set ev_c rfl rfl)) (r_law_at_x2_1 xs' k' (0 : Int) h)
theorem r_law_at_x2 (xs' : List Int) (k' : Int) (h : v_law_at_x2 xs' k') : f_law_at [qL qI xs', qI k'] = some (.ok (.fro (qI (q_law_at_x2 xs' k')))) :=
  fn_F (e := qI) (r_law_at_x2_0 xs' k' h)
noncomputable def q_law_applied_6 (parts' : List ((List Int) × Int)) (values' : List (Int × Int)) (n' : Int) (num' : Int) (den' : Int) (bottom' : Int) : Int × Int :=
  (num', (den' * bottom'))
def v_law_applied_6 (parts' : List ((List Int) × Int)) (values' : List (Int × Int)) (n' : Int) (num' : Int) (den' : Int) (bottom' : Int) : Prop :=
  mulOk den' bottom' = true
noncomputable def q_law_applied_5 (parts' : List ((List Int) × Int)) (values' : List (Int × Int)) (n' : Int) (num' : Int) (den' : Int) (top' : Int) (bottom' : Int) : Int × Int :=
  q_law_applied_6 parts' values' n' ((num' * bottom') + (top' * den')) den' bottom'
def v_law_applied_5 (parts' : List ((List Int) × Int)) (values' : List (Int × Int)) (n' : Int) (num' : Int) (den' : Int) (top' : Int) (bottom' : Int) : Prop :=
  (mulOk num' bottom' = true ∧ mulOk top' den' = true ∧ v_law_applied_6 parts' values' n' ((num' * bottom') + (top' * den')) den' bottom')
noncomputable def q_law_applied_4 (parts' : List ((List Int) × Int)) (values' : List (Int × Int)) (n' : Int) (num' : Int) (den' : Int) (j' : Int) (top' : Int) : Int × Int :=
  q_law_applied_5 parts' values' n' num' den' top' (((gt parts' j').2) * ((gt values' (n' + j')).2))
def v_law_applied_4 (parts' : List ((List Int) × Int)) (values' : List (Int × Int)) (n' : Int) (num' : Int) (den' : Int) (j' : Int) (top' : Int) : Prop :=
  (inR parts' j' ∧ inR values' (n' + j') ∧ mulOk ((gt parts' j').2) ((gt values' (n' + j')).2) = true ∧ v_law_applied_5 parts' values' n' num' den' top' (((gt parts' j').2) * ((gt values' (n' + j')).2)))
noncomputable def q_law_applied_3 (parts' : List ((List Int) × Int)) (values' : List (Int × Int)) (n' : Int) (num' : Int) (den' : Int) (j' : Int) : Int × Int :=
  q_law_applied_4 parts' values' n' num' den' j' ((q_law_at_x2 ((gt parts' j').1) n') * ((gt values' (n' + j')).1))
def v_law_applied_3 (parts' : List ((List Int) × Int)) (values' : List (Int × Int)) (n' : Int) (num' : Int) (den' : Int) (j' : Int) : Prop :=
  (inR parts' j' ∧ v_law_at_x2 ((gt parts' j').1) n' ∧ inR values' (n' + j') ∧ mulOk (q_law_at_x2 ((gt parts' j').1) n') ((gt values' (n' + j')).1) = true ∧ v_law_applied_4 parts' values' n' num' den' j' ((q_law_at_x2 ((gt parts' j').1) n') * ((gt values' (n' + j')).1)))
noncomputable def q_law_applied_7 (parts' : List ((List Int) × Int)) (values' : List (Int × Int)) (n' : Int) (num' : Int) (den' : Int) : Int × Int :=
  (rngT 0 (parts'.length : Int)).foldl (fun (s1 : Int × Int) (x2 : Int) => q_law_applied_3 parts' values' n' s1.1 s1.2 x2) (num', den')
noncomputable def q_law_applied_8 (num' : Int) (den' : Int) : Int × Int :=
  (num', den')
noncomputable def q_law_applied_2 (parts' : List ((List Int) × Int)) (values' : List (Int × Int)) (n' : Int) (num' : Int) (den' : Int) : Int × Int :=
  q_law_applied_8 ((q_law_applied_7 parts' values' n' num' den').1) ((q_law_applied_7 parts' values' n' num' den').2)
def v_law_applied_2 (parts' : List ((List Int) × Int)) (values' : List (Int × Int)) (n' : Int) (num' : Int) (den' : Int) : Prop :=
  (rOk (parts'.length : Int) = true ∧ forV (fun (s1 : Int × Int) (x2 : Int) => v_law_applied_3 parts' values' n' s1.1 s1.2 x2) (fun (s1 : Int × Int) (x2 : Int) => q_law_applied_3 parts' values' n' s1.1 s1.2 x2) (rngT 0 (parts'.length : Int)) (num', den'))
noncomputable def q_law_applied_1 (parts' : List ((List Int) × Int)) (values' : List (Int × Int)) (n' : Int) (num' : Int) : Int × Int :=
  q_law_applied_2 parts' values' n' num' (1 : Int)
def v_law_applied_1 (parts' : List ((List Int) × Int)) (values' : List (Int × Int)) (n' : Int) (num' : Int) : Prop :=
  v_law_applied_2 parts' values' n' num' (1 : Int)
noncomputable def q_law_applied_0 (parts' : List ((List Int) × Int)) (values' : List (Int × Int)) (n' : Int) : Int × Int :=
  q_law_applied_1 parts' values' n' (0 : Int)
def v_law_applied_0 (parts' : List ((List Int) × Int)) (values' : List (Int × Int)) (n' : Int) : Prop :=
  v_law_applied_1 parts' values' n' (0 : Int)
noncomputable def q_law_applied (parts' : List ((List Int) × Int)) (values' : List (Int × Int)) (n' : Int) : Int × Int :=
  q_law_applied_0 parts' values' n'
def v_law_applied (parts' : List ((List Int) × Int)) (values' : List (Int × Int)) (n' : Int) : Prop :=
  v_law_applied_0 parts' values' n'
theorem r_law_applied_6 {j5 : Option Cel} {j6 : Option Cel} (parts' : List ((List Int) × Int)) (values' : List (Int × Int)) (n' : Int) (num' : Int) (den' : Int) (bottom' : Int) (h : v_law_applied_6 parts' values' n' num' den' bottom') : NxOk (b_law_applied_0 [cD (qL (qT2 (qL qI) qI) parts'), cD (qL (qT2 qI qI) values'), cD (qI n'), cD (qI num'), cD (qI den'), j5, j6, cD (qI bottom')]) (fun (s : Int × Int) w => ∃ (j5 : Option Cel) (j6 : Option Cel) (j7 : Option Cel), w = [cD (qL (qT2 (qL qI) qI) parts'), cD (qL (qT2 qI qI) values'), cD (qI n'), cD (qI s.1), cD (qI s.2), j5, j6, j7]) (q_law_applied_6 parts' values' n' num' den' bottom') :=
  nx_st (ρ' := [cD (qL (qT2 (qL qI) qI) parts'), cD (qL (qT2 qI qI) values'), cD (qI n'), cD (qI num'), cD (qI (den' * bottom')), _, _, cD (qI bottom')]) (st_set (ev_e2 ev_fro ev_fro (g_mul h)) rfl rfl) ⟨_, _, _, rfl⟩
theorem r_law_applied_5 {j5 : Option Cel} (parts' : List ((List Int) × Int)) (values' : List (Int × Int)) (n' : Int) (num' : Int) (den' : Int) (top' : Int) (bottom' : Int) (h : v_law_applied_5 parts' values' n' num' den' top' bottom') : NxOk (b_law_applied_1 [cD (qL (qT2 (qL qI) qI) parts'), cD (qL (qT2 qI qI) values'), cD (qI n'), cD (qI num'), cD (qI den'), j5, cD (qI top'), cD (qI bottom')]) (fun (s : Int × Int) w => ∃ (j5 : Option Cel) (j6 : Option Cel) (j7 : Option Cel), w = [cD (qL (qT2 (qL qI) qI) parts'), cD (qL (qT2 qI qI) values'), cD (qI n'), cD (qI s.1), cD (qI s.2), j5, j6, j7]) (q_law_applied_5 parts' values' n' num' den' top' bottom') :=
  NxOk.of (sq_nx (ρ' := [cD (qL (qT2 (qL qI) qI) parts'), cD (qL (qT2 qI qI) values'), cD (qI n'), cD (qI ((num' * bottom') + (top' * den'))), cD (qI den'), _, cD (qI top'), cD (qI bottom')]) (st_set (ev_e2 (ev_e2 ev_fro ev_fro (g_mul h.1)) (ev_e2 ev_fro ev_fro (g_mul h.2.1)) rfl) rfl rfl)) (r_law_applied_6 parts' values' n' ((num' * bottom') + (top' * den')) den' bottom' h.2.2)
theorem r_law_applied_4 {j7 : Option Cel} (parts' : List ((List Int) × Int)) (values' : List (Int × Int)) (n' : Int) (num' : Int) (den' : Int) (j' : Int) (top' : Int) (h : v_law_applied_4 parts' values' n' num' den' j' top') : NxOk (b_law_applied_2 [cD (qL (qT2 (qL qI) qI) parts'), cD (qL (qT2 qI qI) values'), cD (qI n'), cD (qI num'), cD (qI den'), cD (qI j'), cD (qI top'), j7]) (fun (s : Int × Int) w => ∃ (j5 : Option Cel) (j6 : Option Cel) (j7 : Option Cel), w = [cD (qL (qT2 (qL qI) qI) parts'), cD (qL (qT2 qI qI) values'), cD (qI n'), cD (qI s.1), cD (qI s.2), j5, j6, j7]) (q_law_applied_4 parts' values' n' num' den' j' top') :=
  NxOk.of (sq_nx (ρ' := [cD (qL (qT2 (qL qI) qI) parts'), cD (qL (qT2 qI qI) values'), cD (qI n'), cD (qI num'), cD (qI den'), cD (qI j'), cD (qI top'), cD (qI (((gt parts' j').2) * ((gt values' (n' + j')).2)))]) (st_set (ev_e2 (ev_e2 (ev_e2 ev_fro ev_fro (g_ix (k := .fro) (e := qT2 (qL qI) qI) h.1)) ev_c rfl) (ev_e2 (ev_e2 ev_fro (ev_e2 ev_fro ev_fro rfl) (g_ix (k := .fro) (e := qT2 qI qI) h.2.1)) ev_c rfl) (g_mul h.2.2.1)) rfl rfl)) (r_law_applied_5 parts' values' n' num' den' top' (((gt parts' j').2) * ((gt values' (n' + j')).2)) h.2.2.2)
theorem r_law_applied_3 {j6 : Option Cel} {j7 : Option Cel} (parts' : List ((List Int) × Int)) (values' : List (Int × Int)) (n' : Int) (num' : Int) (den' : Int) (j' : Int) (h : v_law_applied_3 parts' values' n' num' den' j') : NxOk (b_law_applied_3 [cD (qL (qT2 (qL qI) qI) parts'), cD (qL (qT2 qI qI) values'), cD (qI n'), cD (qI num'), cD (qI den'), cD (qI j'), j6, j7]) (fun (s : Int × Int) w => ∃ (j5 : Option Cel) (j6 : Option Cel) (j7 : Option Cel), w = [cD (qL (qT2 (qL qI) qI) parts'), cD (qL (qT2 qI qI) values'), cD (qI n'), cD (qI s.1), cD (qI s.2), j5, j6, j7]) (q_law_applied_3 parts' values' n' num' den' j') :=
  NxOk.of (sq_nx (ρ' := [cD (qL (qT2 (qL qI) qI) parts'), cD (qL (qT2 qI qI) values'), cD (qI n'), cD (qI num'), cD (qI den'), cD (qI j'), cD (qI ((q_law_at_x2 ((gt parts' j').1) n') * ((gt values' (n' + j')).1))), _]) (st_set (ev_e2 (ev_call (r_law_at_x2 ((gt parts' j').1) n' h.2.1) (av_cons (ev_e2 (ev_e2 ev_fro ev_fro (g_ix (k := .fro) (e := qT2 (qL qI) qI) h.1)) ev_c rfl) rfl (av_cons ev_fro rfl av_nil))) (ev_e2 (ev_e2 ev_fro (ev_e2 ev_fro ev_fro rfl) (g_ix (k := .fro) (e := qT2 qI qI) h.2.2.1)) ev_c rfl) (g_mul h.2.2.2.1)) rfl rfl)) (r_law_applied_4 parts' values' n' num' den' j' ((q_law_at_x2 ((gt parts' j').1) n') * ((gt values' (n' + j')).1)) h.2.2.2.2)
theorem r_law_applied_8 {j0 : Option Cel} {j1 : Option Cel} {j2 : Option Cel} {j5 : Option Cel} {j6 : Option Cel} {j7 : Option Cel} (num' : Int) (den' : Int) : RtOk (b_law_applied_4 [j0, j1, j2, cD (qI num'), cD (qI den'), j5, j6, j7]) (fun r x => x = .fro (qT2 qI qI r)) (q_law_applied_8 num' den') :=
  rt_ret (ev_tup (av_cons ev_fro rfl (av_cons ev_fro rfl av_nil)) (Nat.le_of_ble_eq_true rfl)) rfl (by simp)
theorem r_law_applied_2 {j5 : Option Cel} {j6 : Option Cel} {j7 : Option Cel} (parts' : List ((List Int) × Int)) (values' : List (Int × Int)) (n' : Int) (num' : Int) (den' : Int) (h : v_law_applied_2 parts' values' n' num' den') : RtOk (b_law_applied_5 [cD (qL (qT2 (qL qI) qI) parts'), cD (qL (qT2 qI qI) values'), cD (qI n'), cD (qI num'), cD (qI den'), j5, j6, j7]) (fun r x => x = .fro (qT2 qI qI r)) (q_law_applied_2 parts' values' n' num' den') :=
  sq_NR (E := (fun (s : Int × Int) w => ∃ (j5 : Option Cel) (j6 : Option Cel) (j7 : Option Cel), w = [cD (qL (qT2 (qL qI) qI) parts'), cD (qL (qT2 qI qI) values'), cD (qI n'), cD (qI s.1), cD (qI s.2), j5, j6, j7])) (q := q_law_applied_7 parts' values' n' num' den') (NxOk.of (sfor_eq (iv_r1 (ev_e1 ev_fro (g_len (k := .fro))) h.1)) (for_N (E := (fun (s : Int × Int) w => ∃ (j5 : Option Cel) (j6 : Option Cel) (j7 : Option Cel), w = [cD (qL (qT2 (qL qI) qI) parts'), cD (qL (qT2 qI qI) values'), cD (qI n'), cD (qI s.1), cD (qI s.2), j5, j6, j7])) (V := fun (s1 : Int × Int) (x2 : Int) => v_law_applied_3 parts' values' n' s1.1 s1.2 x2) (f := fun (s1 : Int × Int) (x2 : Int) => q_law_applied_3 parts' values' n' s1.1 s1.2 x2) (e := qI) (fun s1 x2 ρ hρ hv3 => by obtain ⟨_, _, _, rfl⟩ := hρ; exact ⟨_, rfl, r_law_applied_3 parts' values' n' s1.1 s1.2 x2 hv3⟩) (rngT 0 (parts'.length : Int)) (num', den') _ ⟨_, _, _, rfl⟩ h.2)) (fun w hw => by obtain ⟨_, _, _, rfl⟩ := hw; exact r_law_applied_8 ((q_law_applied_7 parts' values' n' num' den').1) ((q_law_applied_7 parts' values' n' num' den').2))
theorem r_law_applied_1 {j4 : Option Cel} {j5 : Option Cel} {j6 : Option Cel} {j7 : Option Cel} (parts' : List ((List Int) × Int)) (values' : List (Int × Int)) (n' : Int) (num' : Int) (h : v_law_applied_1 parts' values' n' num') : RtOk (b_law_applied_6 [cD (qL (qT2 (qL qI) qI) parts'), cD (qL (qT2 qI qI) values'), cD (qI n'), cD (qI num'), j4, j5, j6, j7]) (fun r x => x = .fro (qT2 qI qI r)) (q_law_applied_1 parts' values' n' num') :=
  RtOk.of (sq_nx (ρ' := [cD (qL (qT2 (qL qI) qI) parts'), cD (qL (qT2 qI qI) values'), cD (qI n'), cD (qI num'), cD (qI (1 : Int)), _, _, _]) (st_set ev_c rfl rfl)) (r_law_applied_2 parts' values' n' num' (1 : Int) h)
theorem r_law_applied_0 {j3 : Option Cel} {j4 : Option Cel} {j5 : Option Cel} {j6 : Option Cel} {j7 : Option Cel} (parts' : List ((List Int) × Int)) (values' : List (Int × Int)) (n' : Int) (h : v_law_applied_0 parts' values' n') : RtOk (b_law_applied_7 [cD (qL (qT2 (qL qI) qI) parts'), cD (qL (qT2 qI qI) values'), cD (qI n'), j3, j4, j5, j6, j7]) (fun r x => x = .fro (qT2 qI qI r)) (q_law_applied_0 parts' values' n') :=
  RtOk.of (sq_nx (ρ' := [cD (qL (qT2 (qL qI) qI) parts'), cD (qL (qT2 qI qI) values'), cD (qI n'), cD (qI (0 : Int)), _, _, _, _]) (st_set ev_c rfl rfl)) (r_law_applied_1 parts' values' n' (0 : Int) h)
theorem r_law_applied (parts' : List ((List Int) × Int)) (values' : List (Int × Int)) (n' : Int) (h : v_law_applied parts' values' n') : f_law_applied [qL (qT2 (qL qI) qI) parts', qL (qT2 qI qI) values', qI n'] = some (.ok (.fro (qT2 qI qI (q_law_applied parts' values' n')))) :=
  fn_F (e := qT2 qI qI) (r_law_applied_0 parts' values' n' h)
theorem r_law_is_whole_0 (x' : Int) : RtOk (b_law_is_whole_0 [cD (qI x')]) (fun r x => x = .fro (qB r)) (q_law_is_whole_0 x') :=
  rt_ret (ev_and (ev_e1 ev_fro rfl) (fun hb1 => ev_not (ev_e1 ev_fro rfl))) rfl (by simp)
theorem r_law_is_whole (x' : Int) : f_law_is_whole [qI x'] = some (.ok (.fro (qB (q_law_is_whole x')))) :=
  fn_F (e := qB) (r_law_is_whole_0 x')
theorem r_law_is_x2_1 {j0 : Option Cel} {j1 : Option Cel}  : RtOk (b_law_is_0 [j0, j1]) (fun r x => x = .fro (qB r)) (q_law_is_x2_1) :=
  rt_ret ev_c rfl (by simp)
theorem r_law_is_x2_2 (x' : Fr) (pair' : Int × Int) (h : v_law_is_x2_2 x' pair') : RtOk (b_law_is_1 [cD (qFr x'), cD (qT2 qI qI pair')]) (fun r x => x = .fro (qB r)) (q_law_is_x2_2 x' pair') :=
  rt_ret (ev_e2 (ev_e2 (ev_e1 ev_fro (by first | exact g_fld rfl rfl | exact g_attF rfl rfl)) (ev_e2 ev_fro ev_c rfl) (g_mul h.1)) (ev_e2 (ev_e2 ev_fro ev_c rfl) (ev_e1 ev_fro (by first | exact g_fld rfl rfl | exact g_attF rfl rfl)) (g_mul h.2)) g_eqI) rfl (by simp)
theorem r_law_is_x2_0 (x' : Fr) (pair' : Int × Int) (h : v_law_is_x2_0 x' pair') : RtOk (b_law_is_2 [cD (qFr x'), cD (qT2 qI qI pair')]) (fun r x => x = .fro (qB r)) (q_law_is_x2_0 x' pair') :=
  rt_sif (tv_or (tv_not (tv_tru (ev_e1 ev_fro rfl) rfl)) (fun hb1 => tv_or (tv_not (tv_tru (ev_call (r_law_is_whole x'.num) (av_cons (ev_e1 ev_fro (by first | exact g_fld rfl rfl | exact g_attF rfl rfl)) rfl av_nil)) rfl)) (fun hb2 => tv_or (tv_not (tv_tru (ev_call (r_law_is_whole x'.den) (av_cons (ev_e1 ev_fro (by first | exact g_fld rfl rfl | exact g_attF rfl rfl)) rfl av_nil)) rfl)) (fun hb3 => tv_b (ev_e2 (ev_e1 ev_fro (by first | exact g_fld rfl rfl | exact g_attF rfl rfl)) ev_c rfl))))) (fun hb4 => rt_seq r_law_is_x2_1) (fun hb4 => RtOk.of (sq_nx rfl) (r_law_is_x2_2 x' pair' (h hb4)))
theorem r_law_is_x2 (x' : Fr) (pair' : Int × Int) (h : v_law_is_x2 x' pair') : f_law_is [qFr x', qT2 qI qI pair'] = some (.ok (.fro (qB (q_law_is_x2 x' pair')))) :=
  fn_F (e := qB) (r_law_is_x2_0 x' pair' h)
theorem r_Poly_shifted_3 {j3 : Option Cel} (self' : Po) (step' : Int) (numbers' : List Int) (j' : Int) (h : v_Poly_shifted_3 self' step' numbers' j') : NxOk (b_Poly_shifted_0 [cD (qPo self'), cD (qI step'), cO (numbers'.map qI), j3, cD (qI j')]) (fun (s : (List Int)) w => ∃ (j3 : Option Cel) (j4 : Option Cel), w = [cD (qPo self'), cD (qI step'), cO (s.map qI), j3, j4]) (q_Poly_shifted_3 self' step' numbers' j') :=
  nx_st (ρ' := [cD (qPo self'), cD (qI step'), cO ((setT numbers' j' ((gt numbers' j') + (step' * (gt numbers' (j' + (1 : Int)))))).map qI), _, cD (qI j')]) (st_ix (e := qI) rfl (ev_e2 (ev_e2 ev_own ev_fro (g_ix (k := .bor) (e := qI) h.1)) (ev_e2 ev_fro (ev_e2 ev_own (ev_e2 ev_fro ev_c rfl) (g_ix (k := .bor) (e := qI) h.2.1)) (g_mul h.2.2.1)) rfl) rfl ev_fro h.2.2.2 rfl) ⟨_, _, rfl⟩
theorem r_Poly_shifted_2 {j4 : Option Cel} (self' : Po) (step' : Int) (numbers' : List Int) (i' : Int) (h : v_Poly_shifted_2 self' step' numbers' i') : NxOk (b_Poly_shifted_1 [cD (qPo self'), cD (qI step'), cO (numbers'.map qI), cD (qI i'), j4]) (fun (s : (List Int)) w => ∃ (j3 : Option Cel) (j4 : Option Cel), w = [cD (qPo self'), cD (qI step'), cO (s.map qI), j3, j4]) (q_Poly_shifted_2 self' step' numbers' i') :=
  NxOk.of (sfor_eq (iv_rD (ev_e2 (ev_e1 ev_own (g_len (k := .bor))) ev_c rfl) (ev_e2 ev_fro ev_c rfl) h.1 h.2.1)) (for_N (E := (fun (s : (List Int)) w => ∃ (j3 : Option Cel) (j4 : Option Cel), w = [cD (qPo self'), cD (qI step'), cO (s.map qI), j3, j4])) (V := fun (s1 : (List Int)) (x2 : Int) => v_Poly_shifted_3 self' step' s1 x2) (f := fun (s1 : (List Int)) (x2 : Int) => q_Poly_shifted_3 self' step' s1 x2) (e := qI) (fun s1 x2 ρ hρ hv3 => by obtain ⟨_, _, rfl⟩ := hρ; exact ⟨_, rfl, r_Poly_shifted_3 self' step' s1 x2 hv3⟩) (rngDT ((numbers'.length : Int) - (2 : Int)) (i' - (1 : Int))) numbers' _ ⟨_, _, rfl⟩ h.2.2)
theorem r_Poly_shifted_5 {j1 : Option Cel} {j3 : Option Cel} {j4 : Option Cel} (self' : Po) (numbers' : List Int) (h : v_Poly_shifted_5 self' numbers') : RtOk (b_Poly_shifted_2 [cD (qPo self'), j1, cO (numbers'.map qI), j3, j4]) (fun r x => x = .fro (qPo r)) (q_Poly_shifted_5 self' numbers') :=
  rt_ret (ev_bor (ρ' := [cD (qPo self'), _, cD (qL qI numbers'), _, _]) rfl rfl (ev_call (r_Poly_init numbers' self'.den h) (av_cons ev_fro rfl (av_cons (ev_e1 ev_fro (by first | exact g_fld rfl rfl | exact g_attF rfl rfl)) rfl av_nil))) (nl_fro (e := qPo) _)) rfl (by simp)
theorem r_Poly_shifted_1 {j3 : Option Cel} {j4 : Option Cel} (self' : Po) (step' : Int) (numbers' : List Int) (h : v_Poly_shifted_1 self' step' numbers') : RtOk (b_Poly_shifted_3 [cD (qPo self'), cD (qI step'), cO (numbers'.map qI), j3, j4]) (fun r x => x = .fro (qPo r)) (q_Poly_shifted_1 self' step' numbers') :=
  sq_NR (E := (fun (s : (List Int)) w => ∃ (j3 : Option Cel) (j4 : Option Cel), w = [cD (qPo self'), cD (qI step'), cO (s.map qI), j3, j4])) (q := q_Poly_shifted_4 self' step' numbers') (NxOk.of (sfor_eq (iv_r1 (ev_e2 (ev_e1 ev_own (g_len (k := .bor))) ev_c rfl) h.1)) (for_N (E := (fun (s : (List Int)) w => ∃ (j3 : Option Cel) (j4 : Option Cel), w = [cD (qPo self'), cD (qI step'), cO (s.map qI), j3, j4])) (V := fun (s4 : (List Int)) (x5 : Int) => v_Poly_shifted_2 self' step' s4 x5) (f := fun (s4 : (List Int)) (x5 : Int) => q_Poly_shifted_2 self' step' s4 x5) (e := qI) (fun s4 x5 ρ hρ hv6 => by obtain ⟨_, _, rfl⟩ := hρ; exact ⟨_, rfl, r_Poly_shifted_2 self' step' s4 x5 hv6⟩) (rngT 0 ((numbers'.length : Int) - (1 : Int))) numbers' _ ⟨_, _, rfl⟩ h.2.1)) (fun w hw => by obtain ⟨_, _, rfl⟩ := hw; exact r_Poly_shifted_5 self' (q_Poly_shifted_4 self' step' numbers') h.2.2)
theorem r_Poly_shifted_0 {j2 : Option Cel} {j3 : Option Cel} {j4 : Option Cel} (self' : Po) (step' : Int) (h : v_Poly_shifted_0 self' step') : RtOk (b_Poly_shifted_4 [cD (qPo self'), cD (qI step'), j2, j3, j4]) (fun r x => x = .fro (qPo r)) (q_Poly_shifted_0 self' step') :=
  RtOk.of (sq_nx (ρ' := [cD (qPo self'), cD (qI step'), cO (self'.coefs.map qI), _, _]) (st_set (ev_e1 (ev_e1 ev_fro (by first | exact g_fld rfl rfl | exact g_attF rfl rfl)) rfl) rfl rfl)) (r_Poly_shifted_1 self' step' self'.coefs h)
theorem r_Poly_shifted (self' : Po) (step' : Int) (h : v_Poly_shifted self' step') : f_Poly_shifted [qPo self', qI step'] = some (.ok (.fro (qPo (q_Poly_shifted self' step')))) :=
  fn_F (e := qPo) (r_Poly_shifted_0 self' step' h)
theorem r_Poly_mul_3 {j3 : Option Cel} (self' : Po) (other' : Po) (numbers' : List Int) (i' : Int) (a' : Int) (j' : Int) (b' : Int) (h : v_Poly_mul_3 self' other' numbers' i' a' j' b') : NxOk (b_Poly_mul_0 [cD (qPo self'), cD (qPo other'), cO (numbers'.map qI), j3, cD (qI i'), cD (qI a'), cD (qI j'), cD (qI b')]) (fun (s : (List Int)) w => ∃ (j3 : Option Cel) (j6 : Option Cel) (j7 : Option Cel), w = [cD (qPo self'), cD (qPo other'), cO (s.map qI), j3, cD (qI i'), cD (qI a'), j6, j7]) (q_Poly_mul_3 self' other' numbers' i' a' j' b') :=
  nx_st (ρ' := [cD (qPo self'), cD (qPo other'), cO ((setT numbers' (i' + j') ((gt numbers' (i' + j')) + (a' * b'))).map qI), _, cD (qI i'), cD (qI a'), cD (qI j'), cD (qI b')]) (st_ix (e := qI) rfl (ev_e2 (ev_e2 ev_own (ev_e2 ev_fro ev_fro rfl) (g_ix (k := .bor) (e := qI) h.1)) (ev_e2 ev_fro ev_fro (g_mul h.2.1)) rfl) rfl (ev_e2 ev_fro ev_fro rfl) h.2.2 rfl) ⟨_, _, _, rfl⟩
theorem r_Poly_mul_2 {j3 : Option Cel} {j6 : Option Cel} {j7 : Option Cel} (self' : Po) (other' : Po) (numbers' : List Int) (i' : Int) (a' : Int) (h : v_Poly_mul_2 self' other' numbers' i' a') : NxOk (b_Poly_mul_1 [cD (qPo self'), cD (qPo other'), cO (numbers'.map qI), j3, cD (qI i'), cD (qI a'), j6, j7]) (fun (s : (List Int)) w => ∃ (j3 : Option Cel) (j4 : Option Cel) (j5 : Option Cel) (j6 : Option Cel) (j7 : Option Cel), w = [cD (qPo self'), cD (qPo other'), cO (s.map qI), j3, j4, j5, j6, j7]) (q_Poly_mul_2 self' other' numbers' i' a') :=
  NxOk.map (NxOk.of (sfor_eq (iv_enV (ev_e1 ev_fro (by first | exact g_fld rfl rfl | exact g_attF rfl rfl)))) (for_N (E := (fun (s : (List Int)) w => ∃ (j3 : Option Cel) (j6 : Option Cel) (j7 : Option Cel), w = [cD (qPo self'), cD (qPo other'), cO (s.map qI), j3, cD (qI i'), cD (qI a'), j6, j7])) (V := fun (s3 : (List Int)) (x4 : Int × Int) => v_Poly_mul_3 self' other' s3 i' a' x4.1 x4.2) (f := fun (s3 : (List Int)) (x4 : Int × Int) => q_Poly_mul_3 self' other' s3 i' a' x4.1 x4.2) (e := qT2 qI qI) (fun s3 x4 ρ hρ hv5 => by obtain ⟨_, _, _, rfl⟩ := hρ; exact ⟨_, rfl, r_Poly_mul_3 self' other' s3 i' a' x4.1 x4.2 hv5⟩) (enT other'.coefs) numbers' _ ⟨_, _, _, rfl⟩ h)) (f := fun s6 => s6) (fun s w hw => by obtain ⟨_, _, _, rfl⟩ := hw; exact ⟨_, _, _, _, _, rfl⟩)
theorem r_Poly_mul_5 {j3 : Option Cel} {j4 : Option Cel} {j5 : Option Cel} {j6 : Option Cel} {j7 : Option Cel} (self' : Po) (other' : Po) (numbers' : List Int) (h : v_Poly_mul_5 self' other' numbers') : RtOk (b_Poly_mul_2 [cD (qPo self'), cD (qPo other'), cO (numbers'.map qI), j3, j4, j5, j6, j7]) (fun r x => x = .fro (qPo r)) (q_Poly_mul_5 self' other' numbers') :=
  rt_ret (ev_bor (ρ' := [cD (qPo self'), cD (qPo other'), cD (qL qI numbers'), _, _, _, _, _]) rfl rfl (ev_call (r_Poly_init numbers' (self'.den * other'.den) h.2) (av_cons ev_fro rfl (av_cons (ev_e2 (ev_e1 ev_fro (by first | exact g_fld rfl rfl | exact g_attF rfl rfl)) (ev_e1 ev_fro (by first | exact g_fld rfl rfl | exact g_attF rfl rfl)) (g_mul h.1)) rfl av_nil))) (nl_fro (e := qPo) _)) rfl (by simp)
theorem r_Poly_mul_1 {j3 : Option Cel} {j4 : Option Cel} {j5 : Option Cel} {j6 : Option Cel} {j7 : Option Cel} (self' : Po) (other' : Po) (numbers' : List Int) (h : v_Poly_mul_1 self' other' numbers') : RtOk (b_Poly_mul_3 [cD (qPo self'), cD (qPo other'), cO (numbers'.map qI), j3, j4, j5, j6, j7]) (fun r x => x = .fro (qPo r)) (q_Poly_mul_1 self' other' numbers') :=
  sq_NR (E := (fun (s : (List Int)) w => ∃ (j3 : Option Cel) (j4 : Option Cel) (j5 : Option Cel) (j6 : Option Cel) (j7 : Option Cel), w = [cD (qPo self'), cD (qPo other'), cO (s.map qI), j3, j4, j5, j6, j7])) (q := q_Poly_mul_4 self' other' numbers') (NxOk.of (sfor_eq (iv_enV (ev_e1 ev_fro (by first | exact g_fld rfl rfl | exact g_attF rfl rfl)))) (for_N (E := (fun (s : (List Int)) w => ∃ (j3 : Option Cel) (j4 : Option Cel) (j5 : Option Cel) (j6 : Option Cel) (j7 : Option Cel), w = [cD (qPo self'), cD (qPo other'), cO (s.map qI), j3, j4, j5, j6, j7])) (V := fun (s7 : (List Int)) (x8 : Int × Int) => v_Poly_mul_2 self' other' s7 x8.1 x8.2) (f := fun (s7 : (List Int)) (x8 : Int × Int) => q_Poly_mul_2 self' other' s7 x8.1 x8.2) (e := qT2 qI qI) (fun s7 x8 ρ hρ hv9 => by obtain ⟨_, _, _, _, _, rfl⟩ := hρ; exact ⟨_, rfl, r_Poly_mul_2 self' other' s7 x8.1 x8.2 hv9⟩) (enT self'.coefs) numbers' _ ⟨_, _, _, _, _, rfl⟩ h.1)) (fun w hw => by obtain ⟨_, _, _, _, _, rfl⟩ := hw; exact r_Poly_mul_5 self' other' (q_Poly_mul_4 self' other' numbers') h.2)
theorem r_Poly_mul_0 {j2 : Option Cel} {j3 : Option Cel} {j4 : Option Cel} {j5 : Option Cel} {j6 : Option Cel} {j7 : Option Cel} (self' : Po) (other' : Po) (h : v_Poly_mul_0 self' other') : RtOk (b_Poly_mul_4 [cD (qPo self'), cD (qPo other'), j2, j3, j4, j5, j6, j7]) (fun r x => x = .fro (qPo r)) (q_Poly_mul_0 self' other') :=
  RtOk.of (sq_nx (ρ' := [cD (qPo self'), cD (qPo other'), cO (((rngT 0 ((self'.coefs.length : Int) + (other'.coefs.length : Int))).map fun (x1 : Int) => (0 : Int)).map qI), _, _, _, _, _]) (st_set (ev_lc (e := qI) (e' := qI) (F := fun (x1 : Int) => (0 : Int)) (xs := rngT 0 ((self'.coefs.length : Int) + (other'.coefs.length : Int))) (iv_r1 (ev_e2 (ev_e1 (ev_e1 ev_fro (by first | exact g_fld rfl rfl | exact g_attF rfl rfl)) g_lenV) (ev_e1 (ev_e1 ev_fro (by first | exact g_fld rfl rfl | exact g_attF rfl rfl)) g_lenV) rfl) h.1) h.2.1 (fun x1 hx2 => ⟨[cD (qPo self'), cD (qPo other'), _, cD (qI x1), _, _, _, _], _, rfl, ev_c, rfl⟩)) rfl rfl)) (r_Poly_mul_1 self' other' ((rngT 0 ((self'.coefs.length : Int) + (other'.coefs.length : Int))).map fun (x1 : Int) => (0 : Int)) h.2.2)
theorem r_Poly_mul (self' : Po) (other' : Po) (h : v_Poly_mul self' other') : f_Poly_mul [qPo self', qPo other'] = some (.ok (.fro (qPo (q_Poly_mul self' other')))) :=
  fn_F (e := qPo) (r_Poly_mul_0 self' other' h)
theorem r_Poly_add_4 {j2 : Option Cel} {j3 : Option Cel} {j4 : Option Cel} {j6 : Option Cel} {j7 : Option Cel} (self' : Po) (other' : Po) (numbers' : List Int) (h : v_Poly_add_4 self' other' numbers') : RtOk (b_Poly_add_0 [cD (qPo self'), cD (qPo other'), j2, j3, j4, cO (numbers'.map qI), j6, j7]) (fun r x => x = .fro (qPo r)) (q_Poly_add_4 self' other' numbers') :=
  rt_ret (ev_bor (ρ' := [cD (qPo self'), cD (qPo other'), _, _, _, cD (qL qI numbers'), _, _]) rfl rfl (ev_call (r_Poly_init numbers' (self'.den * other'.den) h.2) (av_cons ev_fro rfl (av_cons (ev_e2 (ev_e1 ev_fro (by first | exact g_fld rfl rfl | exact g_attF rfl rfl)) (ev_e1 ev_fro (by first | exact g_fld rfl rfl | exact g_attF rfl rfl)) (g_mul h.1)) rfl av_nil))) (nl_fro (e := qPo) _)) rfl (by simp)
theorem r_Poly_add_3 {j2 : Option Cel} {j5 : Option Cel} {j6 : Option Cel} {j7 : Option Cel} (self' : Po) (other' : Po) (first' : List Int) (second' : List Int) (h : v_Poly_add_3 self' other' first' second') : RtOk (b_Poly_add_1 [cD (qPo self'), cD (qPo other'), j2, cO (first'.map qI), cO (second'.map qI), j5, j6, j7]) (fun r x => x = .fro (qPo r)) (q_Poly_add_3 self' other' first' second') :=
  RtOk.of (sq_nx (ρ' := [cD (qPo self'), cD (qPo other'), _, cD (qL qI first'), cD (qL qI second'), cO (((first'.zip second').map fun (x1 : Int × Int) => ((x1.1 * other'.den) + (x1.2 * self'.den))).map qI), _, _]) (fz_own (ρ' := [cD (qPo self'), cD (qPo other'), _, cO (first'.map qI), cD (qL qI second'), _, _, _]) rfl rfl (fz_own (ρ' := [cD (qPo self'), cD (qPo other'), _, cD (qL qI first'), cD (qL qI second'), _, _, _]) rfl rfl (st_set (ev_lc (e := qT2 qI qI) (e' := qI) (F := fun (x1 : Int × Int) => ((x1.1 * other'.den) + (x1.2 * self'.den))) (xs := first'.zip second') (iv_zip (k := .fro) (l := .fro) ev_fro ev_fro (by simp) (by simp)) h.2.1 (fun x1 hx2 => ⟨[cD (qPo self'), cD (qPo other'), _, cD (qL qI first'), cD (qL qI second'), _, cD (qI x1.1), cD (qI x1.2)], _, rfl, ev_e2 (ev_e2 ev_fro (ev_e1 ev_fro (by first | exact g_fld rfl rfl | exact g_attF rfl rfl)) (g_mul (h.1 x1 hx2).1)) (ev_e2 ev_fro (ev_e1 ev_fro (by first | exact g_fld rfl rfl | exact g_attF rfl rfl)) (g_mul (h.1 x1 hx2).2)) rfl, rfl⟩)) rfl rfl)))) (r_Poly_add_4 self' other' ((first'.zip second').map fun (x1 : Int × Int) => ((x1.1 * other'.den) + (x1.2 * self'.den))) h.2.2)
theorem r_Poly_add_2 {j4 : Option Cel} {j5 : Option Cel} {j6 : Option Cel} {j7 : Option Cel} (self' : Po) (other' : Po) (size' : Int) (first' : List Int) (h : v_Poly_add_2 self' other' size' first') : RtOk (b_Poly_add_2 [cD (qPo self'), cD (qPo other'), cD (qI size'), cO (first'.map qI), j4, j5, j6, j7]) (fun r x => x = .fro (qPo r)) (q_Poly_add_2 self' other' size' first') :=
  RtOk.of (sq_nx (ρ' := [cD (qPo self'), cD (qPo other'), cD (qI size'), cO (first'.map qI), cO ((other'.coefs ++ (repT ([(0 : Int)]) (size' - (other'.coefs.length : Int)))).map qI), _, _, _]) (st_set (ev_e2 (ev_e1 (ev_e1 ev_fro (by first | exact g_fld rfl rfl | exact g_attF rfl rfl)) rfl) (ev_e2 (ev_lst (av_cons ev_c rfl av_nil) (Nat.le_of_ble_eq_true rfl)) (ev_e2 ev_fro (ev_e1 (ev_e1 ev_fro (by first | exact g_fld rfl rfl | exact g_attF rfl rfl)) g_lenV) rfl) (g_rep (k := .own) (by simp) h.1 h.2.1)) (g_cat (k := .own) (l := .own) (e := qI) (xs := other'.coefs) (ys := (repT ([(0 : Int)]) (size' - (other'.coefs.length : Int)))) h.2.2.1)) rfl rfl)) (r_Poly_add_3 self' other' first' (other'.coefs ++ (repT ([(0 : Int)]) (size' - (other'.coefs.length : Int)))) h.2.2.2)
theorem r_Poly_add_1 {j3 : Option Cel} {j4 : Option Cel} {j5 : Option Cel} {j6 : Option Cel} {j7 : Option Cel} (self' : Po) (other' : Po) (size' : Int) (h : v_Poly_add_1 self' other' size') : RtOk (b_Poly_add_3 [cD (qPo self'), cD (qPo other'), cD (qI size'), j3, j4, j5, j6, j7]) (fun r x => x = .fro (qPo r)) (q_Poly_add_1 self' other' size') :=
  RtOk.of (sq_nx (ρ' := [cD (qPo self'), cD (qPo other'), cD (qI size'), cO ((self'.coefs ++ (repT ([(0 : Int)]) (size' - (self'.coefs.length : Int)))).map qI), _, _, _, _]) (st_set (ev_e2 (ev_e1 (ev_e1 ev_fro (by first | exact g_fld rfl rfl | exact g_attF rfl rfl)) rfl) (ev_e2 (ev_lst (av_cons ev_c rfl av_nil) (Nat.le_of_ble_eq_true rfl)) (ev_e2 ev_fro (ev_e1 (ev_e1 ev_fro (by first | exact g_fld rfl rfl | exact g_attF rfl rfl)) g_lenV) rfl) (g_rep (k := .own) (by simp) h.1 h.2.1)) (g_cat (k := .own) (l := .own) (e := qI) (xs := self'.coefs) (ys := (repT ([(0 : Int)]) (size' - (self'.coefs.length : Int)))) h.2.2.1)) rfl rfl)) (r_Poly_add_2 self' other' size' (self'.coefs ++ (repT ([(0 : Int)]) (size' - (self'.coefs.length : Int)))) h.2.2.2)
theorem r_Poly_add_0 {j2 : Option Cel} {j3 : Option Cel} {j4 : Option Cel} {j5 : Option Cel} {j6 : Option Cel} {j7 : Option Cel} (self' : Po) (other' : Po) (h : v_Poly_add_0 self' other') : RtOk (b_Poly_add_4 [cD (qPo self'), cD (qPo other'), j2, j3, j4, j5, j6, j7]) (fun r x => x = .fro (qPo r)) (q_Poly_add_0 self' other') :=
  RtOk.of (sq_nx (ρ' := [cD (qPo self'), cD (qPo other'), cD (qI (max (self'.coefs.length : Int) (other'.coefs.length : Int))), _, _, _, _, _]) (st_set (ev_e2 (ev_e1 (ev_e1 ev_fro (by first | exact g_fld rfl rfl | exact g_attF rfl rfl)) g_lenV) (ev_e1 (ev_e1 ev_fro (by first | exact g_fld rfl rfl | exact g_attF rfl rfl)) g_lenV) g_max) rfl rfl)) (r_Poly_add_1 self' other' (max (self'.coefs.length : Int) (other'.coefs.length : Int)) h)
theorem r_Poly_add (self' : Po) (other' : Po) (h : v_Poly_add self' other') : f_Poly_add [qPo self', qPo other'] = some (.ok (.fro (qPo (q_Poly_add self' other')))) :=
  fn_F (e := qPo) (r_Poly_add_0 self' other' h)
theorem r_Operator_mul_3 {j0 : Option Cel} {j3 : Option Cel} (other' : Opr) (parts' : List Po) (i' : Int) (a' : Po) (j' : Int) (b' : Po) (h : v_Operator_mul_3 other' parts' i' a' j' b') : NxOk (b_Operator_mul_0 [j0, cD (qOpr other'), cO (parts'.map qPo), j3, cD (qI i'), cD (qPo a'), cD (qI j'), cD (qPo b')]) (fun (s : (List Po)) w => ∃ (j0 : Option Cel) (j3 : Option Cel) (j6 : Option Cel) (j7 : Option Cel), w = [j0, cD (qOpr other'), cO (s.map qPo), j3, cD (qI i'), cD (qPo a'), j6, j7]) (q_Operator_mul_3 other' parts' i' a' j' b') :=
  nx_st (ρ' := [_, cD (qOpr other'), cO ((setT parts' (i' + j') (q_Poly_add (gt parts' (i' + j')) (q_Poly_mul a' (q_Poly_shifted b' i')))).map qPo), _, cD (qI i'), cD (qPo a'), cD (qI j'), cD (qPo b')]) (st_ix (e := qPo) rfl (ev_e2 (ev_e2 ev_own (ev_e2 ev_fro ev_fro rfl) (g_ix (k := .bor) (e := qPo) h.1)) (ev_e2 ev_fro (ev_meth (gD := (fun ds => ds)) (r_Poly_shifted b' i' h.2.1) ev_fro (av_cons ev_fro rfl av_nil) rfl rfl rfl) (g_own (r_Poly_mul a' (q_Poly_shifted b' i') h.2.2.1) rfl rfl rfl)) (g_own (r_Poly_add (gt parts' (i' + j')) (q_Poly_mul a' (q_Poly_shifted b' i')) h.2.2.2.1) rfl rfl rfl)) rfl (ev_e2 ev_fro ev_fro rfl) h.2.2.2.2 rfl) ⟨_, _, _, _, rfl⟩
theorem r_Operator_mul_2 {j0 : Option Cel} {j3 : Option Cel} {j6 : Option Cel} {j7 : Option Cel} (other' : Opr) (parts' : List Po) (i' : Int) (a' : Po) (h : v_Operator_mul_2 other' parts' i' a') : NxOk (b_Operator_mul_1 [j0, cD (qOpr other'), cO (parts'.map qPo), j3, cD (qI i'), cD (qPo a'), j6, j7]) (fun (s : (List Po)) w => ∃ (j0 : Option Cel) (j3 : Option Cel) (j4 : Option Cel) (j5 : Option Cel) (j6 : Option Cel) (j7 : Option Cel), w = [j0, cD (qOpr other'), cO (s.map qPo), j3, j4, j5, j6, j7]) (q_Operator_mul_2 other' parts' i' a') :=
  NxOk.map (NxOk.of (sfor_eq (iv_enV (ev_e1 ev_fro (by first | exact g_fld rfl rfl | exact g_attF rfl rfl)))) (for_N (E := (fun (s : (List Po)) w => ∃ (j0 : Option Cel) (j3 : Option Cel) (j6 : Option Cel) (j7 : Option Cel), w = [j0, cD (qOpr other'), cO (s.map qPo), j3, cD (qI i'), cD (qPo a'), j6, j7])) (V := fun (s3 : (List Po)) (x4 : Int × Po) => v_Operator_mul_3 other' s3 i' a' x4.1 x4.2) (f := fun (s3 : (List Po)) (x4 : Int × Po) => q_Operator_mul_3 other' s3 i' a' x4.1 x4.2) (e := qT2 qI qPo) (fun s3 x4 ρ hρ hv5 => by obtain ⟨_, _, _, _, rfl⟩ := hρ; exact ⟨_, rfl, r_Operator_mul_3 other' s3 i' a' x4.1 x4.2 hv5⟩) (enT other'.coefs) parts' _ ⟨_, _, _, _, rfl⟩ h)) (f := fun s6 => s6) (fun s w hw => by obtain ⟨_, _, _, _, rfl⟩ := hw; exact ⟨_, _, _, _, _, _, rfl⟩)
theorem r_Operator_mul_5 {j0 : Option Cel} {j1 : Option Cel} {j3 : Option Cel} {j4 : Option Cel} {j5 : Option Cel} {j6 : Option Cel} {j7 : Option Cel} (parts' : List Po) (h : v_Operator_mul_5 parts') : RtOk (b_Operator_mul_2 [j0, j1, cO (parts'.map qPo), j3, j4, j5, j6, j7]) (fun r x => x = .fro (qOpr r)) (q_Operator_mul_5 parts') :=
  rt_ret (ev_bor (ρ' := [_, _, cD (qL qPo parts'), _, _, _, _, _]) rfl rfl (ev_call (r_Operator_init parts' h) (av_cons ev_fro rfl av_nil)) (nl_fro (e := qOpr) _)) rfl (by simp)
theorem r_Operator_mul_1 {j3 : Option Cel} {j4 : Option Cel} {j5 : Option Cel} {j6 : Option Cel} {j7 : Option Cel} (self' : Opr) (other' : Opr) (parts' : List Po) (h : v_Operator_mul_1 self' other' parts') : RtOk (b_Operator_mul_3 [cD (qOpr self'), cD (qOpr other'), cO (parts'.map qPo), j3, j4, j5, j6, j7]) (fun r x => x = .fro (qOpr r)) (q_Operator_mul_1 self' other' parts') :=
  sq_NR (E := (fun (s : (List Po)) w => ∃ (j0 : Option Cel) (j3 : Option Cel) (j4 : Option Cel) (j5 : Option Cel) (j6 : Option Cel) (j7 : Option Cel), w = [j0, cD (qOpr other'), cO (s.map qPo), j3, j4, j5, j6, j7])) (q := q_Operator_mul_4 self' other' parts') (NxOk.of (sfor_eq (iv_enV (ev_e1 ev_fro (by first | exact g_fld rfl rfl | exact g_attF rfl rfl)))) (for_N (E := (fun (s : (List Po)) w => ∃ (j0 : Option Cel) (j3 : Option Cel) (j4 : Option Cel) (j5 : Option Cel) (j6 : Option Cel) (j7 : Option Cel), w = [j0, cD (qOpr other'), cO (s.map qPo), j3, j4, j5, j6, j7])) (V := fun (s7 : (List Po)) (x8 : Int × Po) => v_Operator_mul_2 other' s7 x8.1 x8.2) (f := fun (s7 : (List Po)) (x8 : Int × Po) => q_Operator_mul_2 other' s7 x8.1 x8.2) (e := qT2 qI qPo) (fun s7 x8 ρ hρ hv9 => by obtain ⟨_, _, _, _, _, _, rfl⟩ := hρ; exact ⟨_, rfl, r_Operator_mul_2 other' s7 x8.1 x8.2 hv9⟩) (enT self'.coefs) parts' _ ⟨_, _, _, _, _, _, rfl⟩ h.1)) (fun w hw => by obtain ⟨_, _, _, _, _, _, rfl⟩ := hw; exact r_Operator_mul_5 (q_Operator_mul_4 self' other' parts') h.2)
theorem r_Operator_mul_0 {j2 : Option Cel} {j3 : Option Cel} {j4 : Option Cel} {j5 : Option Cel} {j6 : Option Cel} {j7 : Option Cel} (self' : Opr) (other' : Opr) (h : v_Operator_mul_0 self' other') : RtOk (b_Operator_mul_4 [cD (qOpr self'), cD (qOpr other'), j2, j3, j4, j5, j6, j7]) (fun r x => x = .fro (qOpr r)) (q_Operator_mul_0 self' other') :=
  RtOk.of (sq_nx (ρ' := [cD (qOpr self'), cD (qOpr other'), cO (((rngT 0 ((self'.coefs.length : Int) + (other'.coefs.length : Int))).map fun (x1 : Int) => q_Poly_init ([] : List Int) (1 : Int)).map qPo), _, _, _, _, _]) (st_set (ev_lc (e := qI) (e' := qPo) (F := fun (x1 : Int) => q_Poly_init ([] : List Int) (1 : Int)) (xs := rngT 0 ((self'.coefs.length : Int) + (other'.coefs.length : Int))) (iv_r1 (ev_e2 (ev_e1 (ev_e1 ev_fro (by first | exact g_fld rfl rfl | exact g_attF rfl rfl)) g_lenV) (ev_e1 (ev_e1 ev_fro (by first | exact g_fld rfl rfl | exact g_attF rfl rfl)) g_lenV) rfl) h.1) h.2.2.1 (fun x1 hx2 => ⟨[cD (qOpr self'), cD (qOpr other'), _, cD (qI x1), _, _, _, _], _, rfl, ev_call (r_Poly_init ([] : List Int) (1 : Int) (h.2.1 x1 hx2)) (av_cons (ev_lst av_nil) rfl av_nil), rfl⟩)) rfl rfl)) (r_Operator_mul_1 self' other' ((rngT 0 ((self'.coefs.length : Int) + (other'.coefs.length : Int))).map fun (x1 : Int) => q_Poly_init ([] : List Int) (1 : Int)) h.2.2.2)
theorem r_Operator_mul (self' : Opr) (other' : Opr) (h : v_Operator_mul self' other') : f_Operator_mul [qOpr self', qOpr other'] = some (.ok (.fro (qOpr (q_Operator_mul self' other')))) :=
  fn_F (e := qOpr) (r_Operator_mul_0 self' other' h)
theorem r_law_read_1 {j0 : Option Cel} {j1 : Option Cel}  : RtOk (b_law_read_0 [j0, j1]) (fun r x => x = .fro (qO (qT2 (qL qI) qI) r)) (q_law_read_1) :=
  rt_ret ev_c rfl (by simp)
theorem r_law_read_3 {j0 : Option Cel} {j1 : Option Cel}  : RtOk (b_law_read_1 [j0, j1]) (fun r x => x = .fro (qO (qT2 (qL qI) qI) r)) (q_law_read_3) :=
  rt_ret ev_c rfl (by simp)
theorem r_law_read_6 {j0 : Option Cel} {j1 : Option Cel}  : RtOk (b_law_read_2 [j0, j1]) (fun r x => x = .fro (qO (qT2 (qL qI) qI) r)) (q_law_read_6) :=
  rt_ret ev_c rfl (by simp)
theorem r_law_read_5 (p' : Po) (x' : Int) : FlOk (b_law_read_3 [cD (qPo p'), cD (qI x')]) (fun (s : Unit) w => ∃ (j1 : Option Cel), w = [cD (qPo p'), j1]) (fun (s : Unit) w => ∃ (j1 : Option Cel), w = [cD (qPo p'), j1]) (fun r x => x = .fro (qO (qT2 (qL qI) qI) r)) (q_law_read_5 p' x') :=
  fl_if (tv_not (tv_tru (ev_call (r_law_is_whole x') (av_cons ev_fro rfl av_nil)) rfl)) (fun hb5 => RtOk.fl r_law_read_6) (fun hb5 => NxOk.fl (nx_next ⟨_, rfl⟩))
theorem r_law_read_8 {j1 : Option Cel} (p' : Po) (h : v_law_read_8 p') : RtOk (b_law_read_4 [cD (qPo p'), j1]) (fun r x => x = .fro (qO (qT2 (qL qI) qI) r)) (q_law_read_8 p') :=
  rt_ret (ev_tup (av_cons (ev_call (r_law_trim p'.coefs h) (av_cons (ev_e1 (ev_e1 ev_fro (by first | exact g_fld rfl rfl | exact g_attF rfl rfl)) rfl) rfl av_nil)) rfl (av_cons (ev_e1 ev_fro (by first | exact g_fld rfl rfl | exact g_attF rfl rfl)) rfl av_nil)) (Nat.le_of_ble_eq_true rfl)) rfl (by simp)
theorem r_law_read_4 {j1 : Option Cel} (p' : Po) (h : v_law_read_4 p') : RtOk (b_law_read_5 [cD (qPo p'), j1]) (fun r x => x = .fro (qO (qT2 (qL qI) qI) r)) (q_law_read_4 p') :=
  sq_XR (E := (fun (s : Unit) w => ∃ (j1 : Option Cel), w = [cD (qPo p'), j1])) (B0 := (fun _ _ => False)) (q := q_law_read_7 p') (FlOk.of (sfor_eq (iv_v (ev_e1 ev_fro (by first | exact g_fld rfl rfl | exact g_attF rfl rfl)))) (for_X (E := (fun (s : Unit) w => ∃ (j1 : Option Cel), w = [cD (qPo p'), j1])) (V := fun _ _ => True) (f := fun (s6 : Unit) (x7 : Int) => q_law_read_5 p' x7) (e := qI) (fun s6 x7 ρ hρ hv8 => by obtain ⟨_, rfl⟩ := hρ; exact ⟨_, rfl, r_law_read_5 p' x7⟩) p'.coefs () _ ⟨_, rfl⟩ (forVX_true _ _))) (fun s9 w hw hs10 => by obtain ⟨_, rfl⟩ := hw; exact r_law_read_8 p' (h s9 hs10))
theorem r_law_read_2 {j1 : Option Cel} (p' : Po) (h : v_law_read_2 p') : RtOk (b_law_read_6 [cD (qPo p'), j1]) (fun r x => x = .fro (qO (qT2 (qL qI) qI) r)) (q_law_read_2 p') :=
  rt_sif (tv_or (tv_not (tv_tru (ev_call (r_law_is_whole p'.den) (av_cons (ev_e1 ev_fro (by first | exact g_fld rfl rfl | exact g_attF rfl rfl)) rfl av_nil)) rfl)) (fun hb3 => tv_b (ev_e2 (ev_e1 ev_fro (by first | exact g_fld rfl rfl | exact g_attF rfl rfl)) ev_c rfl))) (fun hb4 => rt_seq r_law_read_3) (fun hb4 => RtOk.of (sq_nx rfl) (r_law_read_4 p' (h hb4)))
theorem r_law_read_0 {j1 : Option Cel} (p' : Po) (h : v_law_read_0 p') : RtOk (b_law_read_7 [cD (qPo p'), j1]) (fun r x => x = .fro (qO (qT2 (qL qI) qI) r)) (q_law_read_0 p') :=
  rt_sif (tv_or (tv_not (tv_tru (ev_e1 ev_fro rfl) rfl)) (fun hb1 => tv_not (tv_tru (ev_e1 (ev_e1 ev_fro (by first | exact g_fld rfl rfl | exact g_attF rfl rfl)) rfl) rfl))) (fun hb2 => rt_seq r_law_read_1) (fun hb2 => RtOk.of (sq_nx rfl) (r_law_read_2 p' (h hb2)))
theorem r_law_read (p' : Po) (h : v_law_read p') : f_law_read [qPo p'] = some (.ok (.fro (qO (qT2 (qL qI) qI) (q_law_read p')))) :=
  fn_F (e := qO (qT2 (qL qI) qI)) (r_law_read_0 p' h)
theorem r_law_cut_x2_3 (parts' : List (Option ((List Int) × Int))) (size' : Int) (k' : Int) : NxOk (b_law_cut_0 [cD (qL (qO (qT2 (qL qI) qI)) parts'), cD (qI size'), cD (qI k')]) (fun (s : Int) w => ∃ (j2 : Option Cel), w = [cD (qL (qO (qT2 (qL qI) qI)) parts'), cD (qI s), j2]) (q_law_cut_x2_3 parts' size' k') :=
  nx_st (ρ' := [cD (qL (qO (qT2 (qL qI) qI)) parts'), cD (qI (k' + (1 : Int))), cD (qI k')]) (st_set (ev_e2 ev_fro ev_c rfl) rfl rfl) ⟨_, rfl⟩
theorem r_law_cut_x2_2 (parts' : List (Option ((List Int) × Int))) (size' : Int) (k' : Int) (h : v_law_cut_x2_2 parts' size' k') : NxOk (b_law_cut_1 [cD (qL (qO (qT2 (qL qI) qI)) parts'), cD (qI size'), cD (qI k')]) (fun (s : Int) w => ∃ (j2 : Option Cel), w = [cD (qL (qO (qT2 (qL qI) qI)) parts'), cD (qI s), j2]) (q_law_cut_x2_2 parts' size' k') :=
  nx_if (tv_b (ev_e2 (ev_e1 (ev_e2 (ev_o (ev_e2 ev_fro ev_fro (g_ix (k := .fro) (e := qO (qT2 (qL qI) qI)) h.1)) h.2) ev_c rfl) (g_len (k := .fro))) ev_c rfl)) (fun hb1 => r_law_cut_x2_3 parts' size' k') (fun hb1 => nx_next ⟨_, rfl⟩)
theorem r_law_cut_x2_5 {j2 : Option Cel} (parts' : List (Option ((List Int) × Int))) (size' : Int) : RtOk (b_law_cut_2 [cD (qL (qO (qT2 (qL qI) qI)) parts'), cD (qI size'), j2]) (fun r x => x = .own (r.map (qO (qT2 (qL qI) qI)))) (q_law_cut_x2_5 parts' size') :=
  rt_ret (ev_sl (k := .fro) ev_fro ov_none (ov_some ev_fro)) rfl (by simp)
theorem r_law_cut_x2_1 {j2 : Option Cel} (parts' : List (Option ((List Int) × Int))) (size' : Int) (h : v_law_cut_x2_1 parts' size') : RtOk (b_law_cut_3 [cD (qL (qO (qT2 (qL qI) qI)) parts'), cD (qI size'), j2]) (fun r x => x = .own (r.map (qO (qT2 (qL qI) qI)))) (q_law_cut_x2_1 parts' size') :=
  sq_NR (E := (fun (s : Int) w => ∃ (j2 : Option Cel), w = [cD (qL (qO (qT2 (qL qI) qI)) parts'), cD (qI s), j2])) (q := q_law_cut_x2_4 parts' size') (NxOk.of (sfor_eq (iv_r1 (ev_e1 ev_fro (g_len (k := .fro))) h.1)) (for_N (E := (fun (s : Int) w => ∃ (j2 : Option Cel), w = [cD (qL (qO (qT2 (qL qI) qI)) parts'), cD (qI s), j2])) (V := fun (s2 : Int) (x3 : Int) => v_law_cut_x2_2 parts' s2 x3) (f := fun (s2 : Int) (x3 : Int) => q_law_cut_x2_2 parts' s2 x3) (e := qI) (fun s2 x3 ρ hρ hv4 => by obtain ⟨_, rfl⟩ := hρ; exact ⟨_, rfl, r_law_cut_x2_2 parts' s2 x3 hv4⟩) (rngT 0 (parts'.length : Int)) size' _ ⟨_, rfl⟩ h.2)) (fun w hw => by obtain ⟨_, rfl⟩ := hw; exact r_law_cut_x2_5 parts' (q_law_cut_x2_4 parts' size'))
theorem r_law_cut_x2_0 {j1 : Option Cel} {j2 : Option Cel} (parts' : List (Option ((List Int) × Int))) (h : v_law_cut_x2_0 parts') : RtOk (b_law_cut_4 [cD (qL (qO (qT2 (qL qI) qI)) parts'), j1, j2]) (fun r x => x = .own (r.map (qO (qT2 (qL qI) qI)))) (q_law_cut_x2_0 parts') :=
  RtOk.of (sq_nx (ρ' := [cD (qL (qO (qT2 (qL qI) qI)) parts'), cD (qI (0 : Int)), _]) (st_set ev_c rfl rfl)) (r_law_cut_x2_1 parts' (0 : Int) h)
theorem r_law_cut_x2 (parts' : List (Option ((List Int) × Int))) (h : v_law_cut_x2 parts') : f_law_cut [qL (qO (qT2 (qL qI) qI)) parts'] = some (.ok (.own ((q_law_cut_x2 parts').map (qO (qT2 (qL qI) qI))))) :=
  fn_O (r_law_cut_x2_0 parts' h)
noncomputable def q_law_read_operator_1  : Option (List (Option ((List Int) × Int))) :=
  none
noncomputable def q_law_read_operator_4  : Option (List (Option ((List Int) × Int))) :=
  none
noncomputable def q_law_read_operator_5 (found' : List (Option ((List Int) × Int))) : Option (List (Option ((List Int) × Int))) :=
  some found'
noncomputable def q_law_read_operator_3 (found' : List (Option ((List Int) × Int))) : Option (List (Option ((List Int) × Int))) :=
  if ((decide ((none : Option ((List Int) × Int)) ∈ found')) || (!decide (((q_law_cut_x2 found').length : Int) = (found'.length : Int)))) then q_law_read_operator_4 else q_law_read_operator_5 found'
def v_law_read_operator_3 (found' : List (Option ((List Int) × Int))) : Prop :=
  ((decide ((none : Option ((List Int) × Int)) ∈ found')) = false → v_law_cut_x2 found')
noncomputable def q_law_read_operator_2 (operator_here' : Opr) : Option (List (Option ((List Int) × Int))) :=
  q_law_read_operator_3 (operator_here'.coefs.map fun (x3 : Po) => q_law_read x3)
def v_law_read_operator_2 (operator_here' : Opr) : Prop :=
  ((∀ x3, x3 ∈ operator_here'.coefs → v_law_read x3) ∧ operator_here'.coefs.length ≤ LINE ∧ v_law_read_operator_3 (operator_here'.coefs.map fun (x3 : Po) => q_law_read x3))
noncomputable def q_law_read_operator_0 (operator_here' : Opr) : Option (List (Option ((List Int) × Int))) :=
  if ((!true) || (!true)) then q_law_read_operator_1 else q_law_read_operator_2 operator_here'
def v_law_read_operator_0 (operator_here' : Opr) : Prop :=
  (((!true) || (!true)) = false → v_law_read_operator_2 operator_here')
noncomputable def q_law_read_operator (operator_here' : Opr) : Option (List (Option ((List Int) × Int))) :=
  q_law_read_operator_0 operator_here'
def v_law_read_operator (operator_here' : Opr) : Prop :=
  v_law_read_operator_0 operator_here'
theorem r_law_read_operator_1 {j0 : Option Cel} {j1 : Option Cel} {j2 : Option Cel}  : RtOk (b_law_read_operator_0 [j0, j1, j2]) (fun r x => x = rsO (qO (qT2 (qL qI) qI)) r) (q_law_read_operator_1) :=
  rt_ret ev_c rfl (by simp)
theorem r_law_read_operator_4 {j0 : Option Cel} {j1 : Option Cel} {j2 : Option Cel}  : RtOk (b_law_read_operator_1 [j0, j1, j2]) (fun r x => x = rsO (qO (qT2 (qL qI) qI)) r) (q_law_read_operator_4) :=
  rt_ret ev_c rfl (by simp)
theorem r_law_read_operator_5 {j0 : Option Cel} {j2 : Option Cel} (found' : List (Option ((List Int) × Int))) : RtOk (b_law_read_operator_2 [j0, cO (found'.map (qO (qT2 (qL qI) qI))), j2]) (fun r x => x = rsO (qO (qT2 (qL qI) qI)) r) (q_law_read_operator_5 found') :=
  rt_retO rfl rfl
theorem r_law_read_operator_3 {j0 : Option Cel} {j2 : Option Cel} (found' : List (Option ((List Int) × Int))) (h : v_law_read_operator_3 found') : RtOk (b_law_read_operator_3 [j0, cO (found'.map (qO (qT2 (qL qI) qI))), j2]) (fun r x => x = rsO (qO (qT2 (qL qI) qI)) r) (q_law_read_operator_3 found') :=
  rt_sif (tv_bor (ρ' := [_, cD (qL (qO (qT2 (qL qI) qI)) found'), _]) rfl rfl (tv_or (tv_b (ev_e2 ev_c ev_fro (g_inA (k := .fro) (e := qO (qT2 (qL qI) qI)) (a := (none : Option ((List Int) × Int))) (xs := found')))) (fun hb5 => tv_b (ev_e2 (ev_e1 (ev_call (r_law_cut_x2 found' (h hb5)) (av_cons ev_fro rfl av_nil)) (g_len (k := .own))) (ev_e1 ev_fro (g_len (k := .fro))) g_neI)))) (fun hb6 => rt_seq r_law_read_operator_4) (fun hb6 => RtOk.of (sq_nx rfl) (r_law_read_operator_5 found'))
theorem r_law_read_operator_2 {j1 : Option Cel} {j2 : Option Cel} (operator_here' : Opr) (h : v_law_read_operator_2 operator_here') : RtOk (b_law_read_operator_4 [cD (qOpr operator_here'), j1, j2]) (fun r x => x = rsO (qO (qT2 (qL qI) qI)) r) (q_law_read_operator_2 operator_here') :=
  RtOk.of (sq_nx (ρ' := [cD (qOpr operator_here'), cO ((operator_here'.coefs.map fun (x3 : Po) => q_law_read x3).map (qO (qT2 (qL qI) qI))), _]) (st_set (ev_lc (e := qPo) (e' := qO (qT2 (qL qI) qI)) (F := fun (x3 : Po) => q_law_read x3) (xs := operator_here'.coefs) (iv_v (ev_e1 ev_fro (by first | exact g_fld rfl rfl | exact g_attF rfl rfl))) h.2.1 (fun x3 hx4 => ⟨[cD (qOpr operator_here'), _, cD (qPo x3)], _, rfl, ev_call (r_law_read x3 (h.1 x3 hx4)) (av_cons ev_fro rfl av_nil), rfl⟩)) rfl rfl)) (r_law_read_operator_3 (operator_here'.coefs.map fun (x3 : Po) => q_law_read x3) h.2.2)
theorem r_law_read_operator_0 {j1 : Option Cel} {j2 : Option Cel} (operator_here' : Opr) (h : v_law_read_operator_0 operator_here') : RtOk (b_law_read_operator_5 [cD (qOpr operator_here'), j1, j2]) (fun r x => x = rsO (qO (qT2 (qL qI) qI)) r) (q_law_read_operator_0 operator_here') :=
  rt_sif (tv_or (tv_not (tv_tru (ev_e1 ev_fro rfl) rfl)) (fun hb1 => tv_not (tv_tru (ev_e1 (ev_e1 ev_fro (by first | exact g_fld rfl rfl | exact g_attF rfl rfl)) rfl) rfl))) (fun hb2 => rt_seq r_law_read_operator_1) (fun hb2 => RtOk.of (sq_nx rfl) (r_law_read_operator_2 operator_here' (h hb2)))
theorem r_law_read_operator (operator_here' : Opr) (h : v_law_read_operator operator_here') : f_law_read_operator [qOpr operator_here'] = some (.ok (rsO (qO (qT2 (qL qI) qI)) (q_law_read_operator operator_here'))) :=
  fn_RO (e := qO (qT2 (qL qI) qI)) (r_law_read_operator_0 operator_here' h)
theorem r_law_shift_3 {j0 : Option Cel} {j3 : Option Cel} (step' : Int) (found' : List Int) (j' : Int) (h : v_law_shift_3 step' found' j') : NxOk (b_law_shift_0 [j0, cD (qI step'), cO (found'.map qI), j3, cD (qI j')]) (fun (s : (List Int)) w => ∃ (j0 : Option Cel) (j3 : Option Cel) (j4 : Option Cel), w = [j0, cD (qI step'), cO (s.map qI), j3, j4]) (q_law_shift_3 step' found' j') :=
  nx_st (ρ' := [_, cD (qI step'), cO ((setT found' j' ((gt found' j') + (step' * (gt found' (j' + (1 : Int)))))).map qI), _, cD (qI j')]) (st_ix (e := qI) rfl (ev_e2 (ev_e2 ev_own ev_fro (g_ix (k := .bor) (e := qI) h.1)) (ev_e2 ev_fro (ev_e2 ev_own (ev_e2 ev_fro ev_c rfl) (g_ix (k := .bor) (e := qI) h.2.1)) (g_mul h.2.2.1)) rfl) rfl ev_fro h.2.2.2 rfl) ⟨_, _, _, rfl⟩
theorem r_law_shift_2 {j0 : Option Cel} {j4 : Option Cel} (step' : Int) (found' : List Int) (i' : Int) (h : v_law_shift_2 step' found' i') : NxOk (b_law_shift_1 [j0, cD (qI step'), cO (found'.map qI), cD (qI i'), j4]) (fun (s : (List Int)) w => ∃ (j0 : Option Cel) (j3 : Option Cel) (j4 : Option Cel), w = [j0, cD (qI step'), cO (s.map qI), j3, j4]) (q_law_shift_2 step' found' i') :=
  NxOk.of (sfor_eq (iv_rD (ev_e2 (ev_e1 ev_own (g_len (k := .bor))) ev_c rfl) (ev_e2 ev_fro ev_c rfl) h.1 h.2.1)) (for_N (E := (fun (s : (List Int)) w => ∃ (j0 : Option Cel) (j3 : Option Cel) (j4 : Option Cel), w = [j0, cD (qI step'), cO (s.map qI), j3, j4])) (V := fun (s1 : (List Int)) (x2 : Int) => v_law_shift_3 step' s1 x2) (f := fun (s1 : (List Int)) (x2 : Int) => q_law_shift_3 step' s1 x2) (e := qI) (fun s1 x2 ρ hρ hv3 => by obtain ⟨_, _, _, rfl⟩ := hρ; exact ⟨_, rfl, r_law_shift_3 step' s1 x2 hv3⟩) (rngDT ((found'.length : Int) - (2 : Int)) (i' - (1 : Int))) found' _ ⟨_, _, _, rfl⟩ h.2.2)
theorem r_law_shift_5 {j0 : Option Cel} {j1 : Option Cel} {j3 : Option Cel} {j4 : Option Cel} (found' : List Int) : RtOk (b_law_shift_2 [j0, j1, cO (found'.map qI), j3, j4]) (fun r x => x = .own (r.map qI)) (q_law_shift_5 found') :=
  rt_retO rfl rfl
theorem r_law_shift_1 {j0 : Option Cel} {j3 : Option Cel} {j4 : Option Cel} (step' : Int) (found' : List Int) (h : v_law_shift_1 step' found') : RtOk (b_law_shift_3 [j0, cD (qI step'), cO (found'.map qI), j3, j4]) (fun r x => x = .own (r.map qI)) (q_law_shift_1 step' found') :=
  sq_NR (E := (fun (s : (List Int)) w => ∃ (j0 : Option Cel) (j3 : Option Cel) (j4 : Option Cel), w = [j0, cD (qI step'), cO (s.map qI), j3, j4])) (q := q_law_shift_4 step' found') (NxOk.of (sfor_eq (iv_r1 (ev_e2 (ev_e1 ev_own (g_len (k := .bor))) ev_c rfl) h.1)) (for_N (E := (fun (s : (List Int)) w => ∃ (j0 : Option Cel) (j3 : Option Cel) (j4 : Option Cel), w = [j0, cD (qI step'), cO (s.map qI), j3, j4])) (V := fun (s4 : (List Int)) (x5 : Int) => v_law_shift_2 step' s4 x5) (f := fun (s4 : (List Int)) (x5 : Int) => q_law_shift_2 step' s4 x5) (e := qI) (fun s4 x5 ρ hρ hv6 => by obtain ⟨_, _, _, rfl⟩ := hρ; exact ⟨_, rfl, r_law_shift_2 step' s4 x5 hv6⟩) (rngT 0 ((found'.length : Int) - (1 : Int))) found' _ ⟨_, _, _, rfl⟩ h.2)) (fun w hw => by obtain ⟨_, _, _, rfl⟩ := hw; exact r_law_shift_5 (q_law_shift_4 step' found'))
theorem r_law_shift_0 {j2 : Option Cel} {j3 : Option Cel} {j4 : Option Cel} (xs' : List Int) (step' : Int) (h : v_law_shift_0 xs' step') : RtOk (b_law_shift_4 [cD (qL qI xs'), cD (qI step'), j2, j3, j4]) (fun r x => x = .own (r.map qI)) (q_law_shift_0 xs' step') :=
  RtOk.of (sq_nx (ρ' := [cD (qL qI xs'), cD (qI step'), cO (xs'.map qI), _, _]) (st_set (ev_e1 ev_fro (g_list (k := .fro))) rfl rfl)) (r_law_shift_1 step' xs' h)
theorem r_law_shift (xs' : List Int) (step' : Int) (h : v_law_shift xs' step') : f_law_shift [qL qI xs', qI step'] = some (.ok (.own ((q_law_shift xs' step').map qI))) :=
  fn_O (r_law_shift_0 xs' step' h)
theorem r_law_move_0 (part' : (List Int) × Int) (step' : Int) (h : v_law_move_0 part' step') : RtOk (b_law_move_0 [cD (qT2 (qL qI) qI part'), cD (qI step')]) (fun r x => x = .fro (qT2 (qL qI) qI r)) (q_law_move_0 part' step') :=
  rt_ret (ev_tup (av_cons (ev_call (r_law_shift part'.1 step' h) (av_cons (ev_e2 ev_fro ev_c rfl) rfl (av_cons ev_fro rfl av_nil))) rfl (av_cons (ev_e2 ev_fro ev_c rfl) rfl av_nil)) (Nat.le_of_ble_eq_true rfl)) rfl (by simp)
theorem r_law_move (part' : (List Int) × Int) (step' : Int) (h : v_law_move part' step') : f_law_move [qT2 (qL qI) qI part', qI step'] = some (.ok (.fro (qT2 (qL qI) qI (q_law_move part' step')))) :=
  fn_F (e := qT2 (qL qI) qI) (r_law_move_0 part' step' h)
theorem r_law_mul_3 {j3 : Option Cel} (xs' : List Int) (ys' : List Int) (found' : List Int) (i' : Int) (j' : Int) (h : v_law_mul_3 xs' ys' found' i' j') : NxOk (b_law_mul_0 [cD (qL qI xs'), cD (qL qI ys'), cO (found'.map qI), j3, cD (qI i'), cD (qI j')]) (fun (s : (List Int)) w => ∃ (j3 : Option Cel) (j5 : Option Cel), w = [cD (qL qI xs'), cD (qL qI ys'), cO (s.map qI), j3, cD (qI i'), j5]) (q_law_mul_3 xs' ys' found' i' j') :=
  nx_st (ρ' := [cD (qL qI xs'), cD (qL qI ys'), cO ((setT found' (i' + j') ((gt found' (i' + j')) + ((gt xs' i') * (gt ys' j')))).map qI), _, cD (qI i'), cD (qI j')]) (st_ix (e := qI) rfl (ev_e2 (ev_e2 ev_own (ev_e2 ev_fro ev_fro rfl) (g_ix (k := .bor) (e := qI) h.1)) (ev_e2 (ev_e2 ev_fro ev_fro (g_ix (k := .fro) (e := qI) h.2.1)) (ev_e2 ev_fro ev_fro (g_ix (k := .fro) (e := qI) h.2.2.1)) (g_mul h.2.2.2.1)) rfl) rfl (ev_e2 ev_fro ev_fro rfl) h.2.2.2.2 rfl) ⟨_, _, rfl⟩
theorem r_law_mul_2 {j3 : Option Cel} {j5 : Option Cel} (xs' : List Int) (ys' : List Int) (found' : List Int) (i' : Int) (h : v_law_mul_2 xs' ys' found' i') : NxOk (b_law_mul_1 [cD (qL qI xs'), cD (qL qI ys'), cO (found'.map qI), j3, cD (qI i'), j5]) (fun (s : (List Int)) w => ∃ (j3 : Option Cel) (j4 : Option Cel) (j5 : Option Cel), w = [cD (qL qI xs'), cD (qL qI ys'), cO (s.map qI), j3, j4, j5]) (q_law_mul_2 xs' ys' found' i') :=
  NxOk.map (NxOk.of (sfor_eq (iv_r1 (ev_e1 ev_fro (g_len (k := .fro))) h.1)) (for_N (E := (fun (s : (List Int)) w => ∃ (j3 : Option Cel) (j5 : Option Cel), w = [cD (qL qI xs'), cD (qL qI ys'), cO (s.map qI), j3, cD (qI i'), j5])) (V := fun (s3 : (List Int)) (x4 : Int) => v_law_mul_3 xs' ys' s3 i' x4) (f := fun (s3 : (List Int)) (x4 : Int) => q_law_mul_3 xs' ys' s3 i' x4) (e := qI) (fun s3 x4 ρ hρ hv5 => by obtain ⟨_, _, rfl⟩ := hρ; exact ⟨_, rfl, r_law_mul_3 xs' ys' s3 i' x4 hv5⟩) (rngT 0 (ys'.length : Int)) found' _ ⟨_, _, rfl⟩ h.2)) (f := fun s6 => s6) (fun s w hw => by obtain ⟨_, _, rfl⟩ := hw; exact ⟨_, _, _, rfl⟩)
theorem r_law_mul_5 {j0 : Option Cel} {j1 : Option Cel} {j3 : Option Cel} {j4 : Option Cel} {j5 : Option Cel} (found' : List Int) (h : v_law_mul_5 found') : RtOk (b_law_mul_2 [j0, j1, cO (found'.map qI), j3, j4, j5]) (fun r x => x = .own (r.map qI)) (q_law_mul_5 found') :=
  RtOk.of (fq_own (ρ' := [_, _, cD (qL qI found'), _, _, _]) rfl rfl) (rt_ret (ev_call (r_law_trim found' h) (av_cons ev_fro rfl av_nil)) rfl (by simp))
theorem r_law_mul_1 {j3 : Option Cel} {j4 : Option Cel} {j5 : Option Cel} (xs' : List Int) (ys' : List Int) (found' : List Int) (h : v_law_mul_1 xs' ys' found') : RtOk (b_law_mul_3 [cD (qL qI xs'), cD (qL qI ys'), cO (found'.map qI), j3, j4, j5]) (fun r x => x = .own (r.map qI)) (q_law_mul_1 xs' ys' found') :=
  sq_NR (E := (fun (s : (List Int)) w => ∃ (j3 : Option Cel) (j4 : Option Cel) (j5 : Option Cel), w = [cD (qL qI xs'), cD (qL qI ys'), cO (s.map qI), j3, j4, j5])) (q := q_law_mul_4 xs' ys' found') (NxOk.of (sfor_eq (iv_r1 (ev_e1 ev_fro (g_len (k := .fro))) h.1)) (for_N (E := (fun (s : (List Int)) w => ∃ (j3 : Option Cel) (j4 : Option Cel) (j5 : Option Cel), w = [cD (qL qI xs'), cD (qL qI ys'), cO (s.map qI), j3, j4, j5])) (V := fun (s7 : (List Int)) (x8 : Int) => v_law_mul_2 xs' ys' s7 x8) (f := fun (s7 : (List Int)) (x8 : Int) => q_law_mul_2 xs' ys' s7 x8) (e := qI) (fun s7 x8 ρ hρ hv9 => by obtain ⟨_, _, _, rfl⟩ := hρ; exact ⟨_, rfl, r_law_mul_2 xs' ys' s7 x8 hv9⟩) (rngT 0 (xs'.length : Int)) found' _ ⟨_, _, _, rfl⟩ h.2.1)) (fun w hw => by obtain ⟨_, _, _, rfl⟩ := hw; exact r_law_mul_5 (q_law_mul_4 xs' ys' found') h.2.2)
theorem r_law_mul_0 {j2 : Option Cel} {j3 : Option Cel} {j4 : Option Cel} {j5 : Option Cel} (xs' : List Int) (ys' : List Int) (h : v_law_mul_0 xs' ys') : RtOk (b_law_mul_4 [cD (qL qI xs'), cD (qL qI ys'), j2, j3, j4, j5]) (fun r x => x = .own (r.map qI)) (q_law_mul_0 xs' ys') :=
  RtOk.of (sq_nx (ρ' := [cD (qL qI xs'), cD (qL qI ys'), cO (((rngT 0 ((xs'.length : Int) + (ys'.length : Int))).map fun (x1 : Int) => (0 : Int)).map qI), _, _, _]) (st_set (ev_lc (e := qI) (e' := qI) (F := fun (x1 : Int) => (0 : Int)) (xs := rngT 0 ((xs'.length : Int) + (ys'.length : Int))) (iv_r1 (ev_e2 (ev_e1 ev_fro (g_len (k := .fro))) (ev_e1 ev_fro (g_len (k := .fro))) rfl) h.1) h.2.1 (fun x1 hx2 => ⟨[cD (qL qI xs'), cD (qL qI ys'), _, cD (qI x1), _, _], _, rfl, ev_c, rfl⟩)) rfl rfl)) (r_law_mul_1 xs' ys' ((rngT 0 ((xs'.length : Int) + (ys'.length : Int))).map fun (x1 : Int) => (0 : Int)) h.2.2)
theorem r_law_mul (xs' : List Int) (ys' : List Int) (h : v_law_mul xs' ys') : f_law_mul [qL qI xs', qL qI ys'] = some (.ok (.own ((q_law_mul xs' ys').map qI))) :=
  fn_O (r_law_mul_0 xs' ys' h)
theorem r_law_times_0 (a' : (List Int) × Int) (b' : (List Int) × Int) (h : v_law_times_0 a' b') : RtOk (b_law_times_0 [cD (qT2 (qL qI) qI a'), cD (qT2 (qL qI) qI b')]) (fun r x => x = .fro (qT2 (qL qI) qI r)) (q_law_times_0 a' b') :=
  rt_ret (ev_tup (av_cons (ev_call (r_law_mul a'.1 b'.1 h.1) (av_cons (ev_e2 ev_fro ev_c rfl) rfl (av_cons (ev_e2 ev_fro ev_c rfl) rfl av_nil))) rfl (av_cons (ev_e2 (ev_e2 ev_fro ev_c rfl) (ev_e2 ev_fro ev_c rfl) (g_mul h.2)) rfl av_nil)) (Nat.le_of_ble_eq_true rfl)) rfl (by simp)
theorem r_law_times (a' : (List Int) × Int) (b' : (List Int) × Int) (h : v_law_times a' b') : f_law_times [qT2 (qL qI) qI a', qT2 (qL qI) qI b'] = some (.ok (.fro (qT2 (qL qI) qI (q_law_times a' b')))) :=
  fn_F (e := qT2 (qL qI) qI) (r_law_times_0 a' b' h)
theorem r_law_scale_0 {j2 : Option Cel} (xs' : List Int) (factor' : Int) (h : v_law_scale_0 xs' factor') : RtOk (b_law_scale_0 [cD (qL qI xs'), cD (qI factor'), j2]) (fun r x => x = .own (r.map qI)) (q_law_scale_0 xs' factor') :=
  rt_ret (ev_call (r_law_trim (xs'.map fun (x1 : Int) => (factor' * x1)) h.2.2) (av_cons (ev_lc (e := qI) (e' := qI) (F := fun (x1 : Int) => (factor' * x1)) (xs := xs') (iv_k (k := .fro) ev_fro (by simp)) h.2.1 (fun x1 hx2 => ⟨[cD (qL qI xs'), cD (qI factor'), cD (qI x1)], _, rfl, ev_e2 ev_fro ev_fro (g_mul (h.1 x1 hx2)), rfl⟩)) rfl av_nil)) rfl (by simp)
theorem r_law_scale (xs' : List Int) (factor' : Int) (h : v_law_scale xs' factor') : f_law_scale [qL qI xs', qI factor'] = some (.ok (.own ((q_law_scale xs' factor').map qI))) :=
  fn_O (r_law_scale_0 xs' factor' h)
theorem r_law_sum_x2_2 {j3 : Option Cel} {j5 : Option Cel} (xs' : List Int) (ys' : List Int) (found' : List Int) (i' : Int) (h : v_law_sum_x2_2 xs' ys' found' i') : NxOk (b_law_sum_0 [cD (qL qI xs'), cD (qL qI ys'), cO (found'.map qI), j3, cD (qI i'), j5]) (fun (s : (List Int)) w => ∃ (j3 : Option Cel) (j4 : Option Cel) (j5 : Option Cel), w = [cD (qL qI xs'), cD (qL qI ys'), cO (s.map qI), j3, j4, j5]) (q_law_sum_x2_2 xs' ys' found' i') :=
  nx_st (ρ' := [cD (qL qI xs'), cD (qL qI ys'), cO ((setT found' i' (gt xs' i')).map qI), _, cD (qI i'), _]) (st_ix (e := qI) rfl (ev_e2 ev_fro ev_fro (g_ix (k := .fro) (e := qI) h.1)) rfl ev_fro h.2 rfl) ⟨_, _, _, rfl⟩
theorem r_law_sum_x2_5 {j0 : Option Cel} {j3 : Option Cel} {j4 : Option Cel} (ys' : List Int) (found' : List Int) (j' : Int) (h : v_law_sum_x2_5 ys' found' j') : NxOk (b_law_sum_1 [j0, cD (qL qI ys'), cO (found'.map qI), j3, j4, cD (qI j')]) (fun (s : (List Int)) w => ∃ (j0 : Option Cel) (j3 : Option Cel) (j4 : Option Cel) (j5 : Option Cel), w = [j0, cD (qL qI ys'), cO (s.map qI), j3, j4, j5]) (q_law_sum_x2_5 ys' found' j') :=
  nx_st (ρ' := [_, cD (qL qI ys'), cO ((setT found' j' ((gt found' j') + (gt ys' j'))).map qI), _, _, cD (qI j')]) (st_ix (e := qI) rfl (ev_e2 (ev_e2 ev_own ev_fro (g_ix (k := .bor) (e := qI) h.1)) (ev_e2 ev_fro ev_fro (g_ix (k := .fro) (e := qI) h.2.1)) rfl) rfl ev_fro h.2.2 rfl) ⟨_, _, _, _, rfl⟩
theorem r_law_sum_x2_7 {j0 : Option Cel} {j1 : Option Cel} {j3 : Option Cel} {j4 : Option Cel} {j5 : Option Cel} (found' : List Int) (h : v_law_sum_x2_7 found') : RtOk (b_law_sum_2 [j0, j1, cO (found'.map qI), j3, j4, j5]) (fun r x => x = .own (r.map qI)) (q_law_sum_x2_7 found') :=
  RtOk.of (fq_own (ρ' := [_, _, cD (qL qI found'), _, _, _]) rfl rfl) (rt_ret (ev_call (r_law_trim found' h) (av_cons ev_fro rfl av_nil)) rfl (by simp))
theorem r_law_sum_x2_4 {j0 : Option Cel} {j3 : Option Cel} {j4 : Option Cel} {j5 : Option Cel} (ys' : List Int) (found' : List Int) (h : v_law_sum_x2_4 ys' found') : RtOk (b_law_sum_3 [j0, cD (qL qI ys'), cO (found'.map qI), j3, j4, j5]) (fun r x => x = .own (r.map qI)) (q_law_sum_x2_4 ys' found') :=
  sq_NR (E := (fun (s : (List Int)) w => ∃ (j0 : Option Cel) (j3 : Option Cel) (j4 : Option Cel) (j5 : Option Cel), w = [j0, cD (qL qI ys'), cO (s.map qI), j3, j4, j5])) (q := q_law_sum_x2_6 ys' found') (NxOk.of (sfor_eq (iv_r1 (ev_e1 ev_fro (g_len (k := .fro))) h.1)) (for_N (E := (fun (s : (List Int)) w => ∃ (j0 : Option Cel) (j3 : Option Cel) (j4 : Option Cel) (j5 : Option Cel), w = [j0, cD (qL qI ys'), cO (s.map qI), j3, j4, j5])) (V := fun (s6 : (List Int)) (x7 : Int) => v_law_sum_x2_5 ys' s6 x7) (f := fun (s6 : (List Int)) (x7 : Int) => q_law_sum_x2_5 ys' s6 x7) (e := qI) (fun s6 x7 ρ hρ hv8 => by obtain ⟨_, _, _, _, rfl⟩ := hρ; exact ⟨_, rfl, r_law_sum_x2_5 ys' s6 x7 hv8⟩) (rngT 0 (ys'.length : Int)) found' _ ⟨_, _, _, _, rfl⟩ h.2.1)) (fun w hw => by obtain ⟨_, _, _, _, rfl⟩ := hw; exact r_law_sum_x2_7 (q_law_sum_x2_6 ys' found') h.2.2)
theorem r_law_sum_x2_1 {j3 : Option Cel} {j4 : Option Cel} {j5 : Option Cel} (xs' : List Int) (ys' : List Int) (found' : List Int) (h : v_law_sum_x2_1 xs' ys' found') : RtOk (b_law_sum_4 [cD (qL qI xs'), cD (qL qI ys'), cO (found'.map qI), j3, j4, j5]) (fun r x => x = .own (r.map qI)) (q_law_sum_x2_1 xs' ys' found') :=
  sq_NR (E := (fun (s : (List Int)) w => ∃ (j3 : Option Cel) (j4 : Option Cel) (j5 : Option Cel), w = [cD (qL qI xs'), cD (qL qI ys'), cO (s.map qI), j3, j4, j5])) (q := q_law_sum_x2_3 xs' ys' found') (NxOk.of (sfor_eq (iv_r1 (ev_e1 ev_fro (g_len (k := .fro))) h.1)) (for_N (E := (fun (s : (List Int)) w => ∃ (j3 : Option Cel) (j4 : Option Cel) (j5 : Option Cel), w = [cD (qL qI xs'), cD (qL qI ys'), cO (s.map qI), j3, j4, j5])) (V := fun (s3 : (List Int)) (x4 : Int) => v_law_sum_x2_2 xs' ys' s3 x4) (f := fun (s3 : (List Int)) (x4 : Int) => q_law_sum_x2_2 xs' ys' s3 x4) (e := qI) (fun s3 x4 ρ hρ hv5 => by obtain ⟨_, _, _, rfl⟩ := hρ; exact ⟨_, rfl, r_law_sum_x2_2 xs' ys' s3 x4 hv5⟩) (rngT 0 (xs'.length : Int)) found' _ ⟨_, _, _, rfl⟩ h.2.1)) (fun w hw => by obtain ⟨_, _, _, rfl⟩ := hw; exact r_law_sum_x2_4 ys' (q_law_sum_x2_3 xs' ys' found') h.2.2)
theorem r_law_sum_x2_0 {j2 : Option Cel} {j3 : Option Cel} {j4 : Option Cel} {j5 : Option Cel} (xs' : List Int) (ys' : List Int) (h : v_law_sum_x2_0 xs' ys') : RtOk (b_law_sum_5 [cD (qL qI xs'), cD (qL qI ys'), j2, j3, j4, j5]) (fun r x => x = .own (r.map qI)) (q_law_sum_x2_0 xs' ys') :=
  RtOk.of (sq_nx (ρ' := [cD (qL qI xs'), cD (qL qI ys'), cO (((rngT 0 (max (xs'.length : Int) (ys'.length : Int))).map fun (x1 : Int) => (0 : Int)).map qI), _, _, _]) (st_set (ev_lc (e := qI) (e' := qI) (F := fun (x1 : Int) => (0 : Int)) (xs := rngT 0 (max (xs'.length : Int) (ys'.length : Int))) (iv_r1 (ev_e2 (ev_e1 ev_fro (g_len (k := .fro))) (ev_e1 ev_fro (g_len (k := .fro))) g_max) h.1) h.2.1 (fun x1 hx2 => ⟨[cD (qL qI xs'), cD (qL qI ys'), _, cD (qI x1), _, _], _, rfl, ev_c, rfl⟩)) rfl rfl)) (r_law_sum_x2_1 xs' ys' ((rngT 0 (max (xs'.length : Int) (ys'.length : Int))).map fun (x1 : Int) => (0 : Int)) h.2.2)
theorem r_law_sum_x2 (xs' : List Int) (ys' : List Int) (h : v_law_sum_x2 xs' ys') : f_law_sum [qL qI xs', qL qI ys'] = some (.ok (.own ((q_law_sum_x2 xs' ys').map qI))) :=
  fn_O (r_law_sum_x2_0 xs' ys' h)
theorem r_law_plus_0 (a' : (List Int) × Int) (b' : (List Int) × Int) (h : v_law_plus_0 a' b') : RtOk (b_law_plus_0 [cD (qT2 (qL qI) qI a'), cD (qT2 (qL qI) qI b')]) (fun r x => x = .fro (qT2 (qL qI) qI r)) (q_law_plus_0 a' b') :=
  rt_ret (ev_tup (av_cons (ev_call (r_law_sum_x2 (q_law_scale a'.1 b'.2) (q_law_scale b'.1 a'.2) h.2.2.1) (av_cons (ev_call (r_law_scale a'.1 b'.2 h.1) (av_cons (ev_e2 ev_fro ev_c rfl) rfl (av_cons (ev_e2 ev_fro ev_c rfl) rfl av_nil))) rfl (av_cons (ev_call (r_law_scale b'.1 a'.2 h.2.1) (av_cons (ev_e2 ev_fro ev_c rfl) rfl (av_cons (ev_e2 ev_fro ev_c rfl) rfl av_nil))) rfl av_nil))) rfl (av_cons (ev_e2 (ev_e2 ev_fro ev_c rfl) (ev_e2 ev_fro ev_c rfl) (g_mul h.2.2.2)) rfl av_nil)) (Nat.le_of_ble_eq_true rfl)) rfl (by simp)
theorem r_law_plus (a' : (List Int) × Int) (b' : (List Int) × Int) (h : v_law_plus a' b') : f_law_plus [qT2 (qL qI) qI a', qT2 (qL qI) qI b'] = some (.ok (.fro (qT2 (qL qI) qI (q_law_plus a' b')))) :=
  fn_F (e := qT2 (qL qI) qI) (r_law_plus_0 a' b' h)
theorem r_law_after_3 {j3 : Option Cel} (first' : List ((List Int) × Int)) (second' : List ((List Int) × Int)) (found' : List ((List Int) × Int)) (i' : Int) (j' : Int) (h : v_law_after_3 first' second' found' i' j') : NxOk (b_law_after_0 [cD (qL (qT2 (qL qI) qI) first'), cD (qL (qT2 (qL qI) qI) second'), cO (found'.map (qT2 (qL qI) qI)), j3, cD (qI i'), cD (qI j')]) (fun (s : (List ((List Int) × Int))) w => ∃ (j3 : Option Cel) (j5 : Option Cel), w = [cD (qL (qT2 (qL qI) qI) first'), cD (qL (qT2 (qL qI) qI) second'), cO (s.map (qT2 (qL qI) qI)), j3, cD (qI i'), j5]) (q_law_after_3 first' second' found' i' j') :=
  nx_st (ρ' := [cD (qL (qT2 (qL qI) qI) first'), cD (qL (qT2 (qL qI) qI) second'), cO ((setT found' (i' + j') (q_law_plus (gt found' (i' + j')) (q_law_times (gt first' i') (q_law_move (gt second' j') i')))).map (qT2 (qL qI) qI)), _, cD (qI i'), cD (qI j')]) (st_ix (e := qT2 (qL qI) qI) rfl (ev_call (r_law_plus (gt found' (i' + j')) (q_law_times (gt first' i') (q_law_move (gt second' j') i')) h.2.2.2.2.2.1) (av_cons (ev_e2 ev_own (ev_e2 ev_fro ev_fro rfl) (g_ix (k := .bor) (e := qT2 (qL qI) qI) h.1)) rfl (av_cons (ev_call (r_law_times (gt first' i') (q_law_move (gt second' j') i') h.2.2.2.2.1) (av_cons (ev_e2 ev_fro ev_fro (g_ix (k := .fro) (e := qT2 (qL qI) qI) h.2.1)) rfl (av_cons (ev_call (r_law_move (gt second' j') i' h.2.2.2.1) (av_cons (ev_e2 ev_fro ev_fro (g_ix (k := .fro) (e := qT2 (qL qI) qI) h.2.2.1)) rfl (av_cons ev_fro rfl av_nil))) rfl av_nil))) rfl av_nil))) rfl (ev_e2 ev_fro ev_fro rfl) h.2.2.2.2.2.2 rfl) ⟨_, _, rfl⟩
theorem r_law_after_2 {j3 : Option Cel} {j5 : Option Cel} (first' : List ((List Int) × Int)) (second' : List ((List Int) × Int)) (found' : List ((List Int) × Int)) (i' : Int) (h : v_law_after_2 first' second' found' i') : NxOk (b_law_after_1 [cD (qL (qT2 (qL qI) qI) first'), cD (qL (qT2 (qL qI) qI) second'), cO (found'.map (qT2 (qL qI) qI)), j3, cD (qI i'), j5]) (fun (s : (List ((List Int) × Int))) w => ∃ (j3 : Option Cel) (j4 : Option Cel) (j5 : Option Cel), w = [cD (qL (qT2 (qL qI) qI) first'), cD (qL (qT2 (qL qI) qI) second'), cO (s.map (qT2 (qL qI) qI)), j3, j4, j5]) (q_law_after_2 first' second' found' i') :=
  NxOk.map (NxOk.of (sfor_eq (iv_r1 (ev_e1 ev_fro (g_len (k := .fro))) h.1)) (for_N (E := (fun (s : (List ((List Int) × Int))) w => ∃ (j3 : Option Cel) (j5 : Option Cel), w = [cD (qL (qT2 (qL qI) qI) first'), cD (qL (qT2 (qL qI) qI) second'), cO (s.map (qT2 (qL qI) qI)), j3, cD (qI i'), j5])) (V := fun (s3 : (List ((List Int) × Int))) (x4 : Int) => v_law_after_3 first' second' s3 i' x4) (f := fun (s3 : (List ((List Int) × Int))) (x4 : Int) => q_law_after_3 first' second' s3 i' x4) (e := qI) (fun s3 x4 ρ hρ hv5 => by obtain ⟨_, _, rfl⟩ := hρ; exact ⟨_, rfl, r_law_after_3 first' second' s3 i' x4 hv5⟩) (rngT 0 (second'.length : Int)) found' _ ⟨_, _, rfl⟩ h.2)) (f := fun s6 => s6) (fun s w hw => by obtain ⟨_, _, rfl⟩ := hw; exact ⟨_, _, _, rfl⟩)
theorem r_law_after_5 {j0 : Option Cel} {j1 : Option Cel} {j3 : Option Cel} {j4 : Option Cel} {j5 : Option Cel} (found' : List ((List Int) × Int)) (h : v_law_after_5 found') : RtOk (b_law_after_2 [j0, j1, cO (found'.map (qT2 (qL qI) qI)), j3, j4, j5]) (fun r x => x = .own (r.map (qT2 (qL qI) qI))) (q_law_after_5 found') :=
  RtOk.of (fq_own (ρ' := [_, _, cD (qL (qT2 (qL qI) qI) found'), _, _, _]) rfl rfl) (rt_ret (ev_call (r_law_cut found' h) (av_cons ev_fro rfl av_nil)) rfl (by simp))
theorem r_law_after_1 {j3 : Option Cel} {j4 : Option Cel} {j5 : Option Cel} (first' : List ((List Int) × Int)) (second' : List ((List Int) × Int)) (found' : List ((List Int) × Int)) (h : v_law_after_1 first' second' found') : RtOk (b_law_after_3 [cD (qL (qT2 (qL qI) qI) first'), cD (qL (qT2 (qL qI) qI) second'), cO (found'.map (qT2 (qL qI) qI)), j3, j4, j5]) (fun r x => x = .own (r.map (qT2 (qL qI) qI))) (q_law_after_1 first' second' found') :=
  sq_NR (E := (fun (s : (List ((List Int) × Int))) w => ∃ (j3 : Option Cel) (j4 : Option Cel) (j5 : Option Cel), w = [cD (qL (qT2 (qL qI) qI) first'), cD (qL (qT2 (qL qI) qI) second'), cO (s.map (qT2 (qL qI) qI)), j3, j4, j5])) (q := q_law_after_4 first' second' found') (NxOk.of (sfor_eq (iv_r1 (ev_e1 ev_fro (g_len (k := .fro))) h.1)) (for_N (E := (fun (s : (List ((List Int) × Int))) w => ∃ (j3 : Option Cel) (j4 : Option Cel) (j5 : Option Cel), w = [cD (qL (qT2 (qL qI) qI) first'), cD (qL (qT2 (qL qI) qI) second'), cO (s.map (qT2 (qL qI) qI)), j3, j4, j5])) (V := fun (s7 : (List ((List Int) × Int))) (x8 : Int) => v_law_after_2 first' second' s7 x8) (f := fun (s7 : (List ((List Int) × Int))) (x8 : Int) => q_law_after_2 first' second' s7 x8) (e := qI) (fun s7 x8 ρ hρ hv9 => by obtain ⟨_, _, _, rfl⟩ := hρ; exact ⟨_, rfl, r_law_after_2 first' second' s7 x8 hv9⟩) (rngT 0 (first'.length : Int)) found' _ ⟨_, _, _, rfl⟩ h.2.1)) (fun w hw => by obtain ⟨_, _, _, rfl⟩ := hw; exact r_law_after_5 (q_law_after_4 first' second' found') h.2.2)
theorem r_law_after_0 {j2 : Option Cel} {j3 : Option Cel} {j4 : Option Cel} {j5 : Option Cel} (first' : List ((List Int) × Int)) (second' : List ((List Int) × Int)) (h : v_law_after_0 first' second') : RtOk (b_law_after_4 [cD (qL (qT2 (qL qI) qI) first'), cD (qL (qT2 (qL qI) qI) second'), j2, j3, j4, j5]) (fun r x => x = .own (r.map (qT2 (qL qI) qI))) (q_law_after_0 first' second') :=
  RtOk.of (sq_nx (ρ' := [cD (qL (qT2 (qL qI) qI) first'), cD (qL (qT2 (qL qI) qI) second'), cO (((rngT 0 ((first'.length : Int) + (second'.length : Int))).map fun (x1 : Int) => (([] : List Int), (1 : Int))).map (qT2 (qL qI) qI)), _, _, _]) (st_set (ev_lc (e := qI) (e' := qT2 (qL qI) qI) (F := fun (x1 : Int) => (([] : List Int), (1 : Int))) (xs := rngT 0 ((first'.length : Int) + (second'.length : Int))) (iv_r1 (ev_e2 (ev_e1 ev_fro (g_len (k := .fro))) (ev_e1 ev_fro (g_len (k := .fro))) rfl) h.1) h.2.1 (fun x1 hx2 => ⟨[cD (qL (qT2 (qL qI) qI) first'), cD (qL (qT2 (qL qI) qI) second'), _, cD (qI x1), _, _], _, rfl, ev_tup (av_cons (ev_lst av_nil) rfl (av_cons ev_c rfl av_nil)) (Nat.le_of_ble_eq_true rfl), rfl⟩)) rfl rfl)) (r_law_after_1 first' second' ((rngT 0 ((first'.length : Int) + (second'.length : Int))).map fun (x1 : Int) => (([] : List Int), (1 : Int))) h.2.2)
theorem r_law_after (first' : List ((List Int) × Int)) (second' : List ((List Int) × Int)) (h : v_law_after first' second') : f_law_after [qL (qT2 (qL qI) qI) first', qL (qT2 (qL qI) qI) second'] = some (.ok (.own ((q_law_after first' second').map (qT2 (qL qI) qI)))) :=
  fn_O (r_law_after_0 first' second' h)
theorem r_law_alike_0 (a' : Option ((List Int) × Int)) (b' : (List Int) × Int) (h : v_law_alike_0 a' b') : RtOk (b_law_alike_0 [cD (qO (qT2 (qL qI) qI) a'), cD (qT2 (qL qI) qI b')]) (fun r x => x = .fro (qB r)) (q_law_alike_0 a' b') :=
  rt_ret (ev_e2 (ev_call (r_law_scale ((a'.getD default).1) b'.2 h.2.1) (av_cons (ev_e2 (ev_o ev_fro h.1) ev_c rfl) rfl (av_cons (ev_e2 ev_fro ev_c rfl) rfl av_nil))) (ev_call (r_law_scale b'.1 ((a'.getD default).2) h.2.2.2) (av_cons (ev_e2 ev_fro ev_c rfl) rfl (av_cons (ev_e2 (ev_o ev_fro h.2.2.1) ev_c rfl) rfl av_nil))) (g_eqK (k := .own) (l := .own) (e := qI) (xs := q_law_scale ((a'.getD default).1) b'.2) (ys := q_law_scale b'.1 ((a'.getD default).2)))) rfl (by simp)
theorem r_law_alike (a' : Option ((List Int) × Int)) (b' : (List Int) × Int) (h : v_law_alike a' b') : f_law_alike [qO (qT2 (qL qI) qI) a', qT2 (qL qI) qI b'] = some (.ok (.fro (qB (q_law_alike a' b')))) :=
  fn_F (e := qB) (r_law_alike_0 a' b' h)
theorem r_law_same_1 {j0 : Option Cel} {j1 : Option Cel} {j2 : Option Cel}  : RtOk (b_law_same_0 [j0, j1, j2]) (fun r x => x = .fro (qB r)) (q_law_same_1) :=
  rt_ret ev_c rfl (by simp)
theorem r_law_same_4 {j0 : Option Cel} {j1 : Option Cel} {j2 : Option Cel}  : RtOk (b_law_same_1 [j0, j1, j2]) (fun r x => x = .fro (qB r)) (q_law_same_4) :=
  rt_ret ev_c rfl (by simp)
theorem r_law_same_3 (found' : Option (List (Option ((List Int) × Int)))) (parts' : List ((List Int) × Int)) (k' : Int) (h : v_law_same_3 found' parts' k') : FlOk (b_law_same_2 [cD (qO (qL (qO (qT2 (qL qI) qI))) found'), cD (qL (qT2 (qL qI) qI) parts'), cD (qI k')]) (fun (s : Unit) w => ∃ (j2 : Option Cel), w = [cD (qO (qL (qO (qT2 (qL qI) qI))) found'), cD (qL (qT2 (qL qI) qI) parts'), j2]) (fun (s : Unit) w => ∃ (j2 : Option Cel), w = [cD (qO (qL (qO (qT2 (qL qI) qI))) found'), cD (qL (qT2 (qL qI) qI) parts'), j2]) (fun r x => x = .fro (qB r)) (q_law_same_3 found' parts' k') :=
  fl_if (tv_not (tv_tru (ev_call (r_law_alike (gt (found'.getD default) k') (gt parts' k') h.2.2.2) (av_cons (ev_e2 (ev_o (e := qL (qO (qT2 (qL qI) qI))) ev_fro h.1) ev_fro (g_ix (k := .fro) (e := qO (qT2 (qL qI) qI)) h.2.1)) rfl (av_cons (ev_e2 ev_fro ev_fro (g_ix (k := .fro) (e := qT2 (qL qI) qI) h.2.2.1)) rfl av_nil))) rfl)) (fun hb3 => RtOk.fl r_law_same_4) (fun hb3 => NxOk.fl (nx_next ⟨_, rfl⟩))
theorem r_law_same_6 {j0 : Option Cel} {j1 : Option Cel} {j2 : Option Cel}  : RtOk (b_law_same_3 [j0, j1, j2]) (fun r x => x = .fro (qB r)) (q_law_same_6) :=
  rt_ret ev_c rfl (by simp)
theorem r_law_same_2 {j2 : Option Cel} (found' : Option (List (Option ((List Int) × Int)))) (parts' : List ((List Int) × Int)) (h : v_law_same_2 found' parts') : RtOk (b_law_same_4 [cD (qO (qL (qO (qT2 (qL qI) qI))) found'), cD (qL (qT2 (qL qI) qI) parts'), j2]) (fun r x => x = .fro (qB r)) (q_law_same_2 found' parts') :=
  sq_XR (E := (fun (s : Unit) w => ∃ (j2 : Option Cel), w = [cD (qO (qL (qO (qT2 (qL qI) qI))) found'), cD (qL (qT2 (qL qI) qI) parts'), j2])) (B0 := (fun _ _ => False)) (q := q_law_same_5 found' parts') (FlOk.of (sfor_eq (iv_r1 (ev_e1 ev_fro (g_len (k := .fro))) h.1)) (for_X (E := (fun (s : Unit) w => ∃ (j2 : Option Cel), w = [cD (qO (qL (qO (qT2 (qL qI) qI))) found'), cD (qL (qT2 (qL qI) qI) parts'), j2])) (V := fun (s4 : Unit) (x5 : Int) => v_law_same_3 found' parts' x5) (f := fun (s4 : Unit) (x5 : Int) => q_law_same_3 found' parts' x5) (e := qI) (fun s4 x5 ρ hρ hv6 => by obtain ⟨_, rfl⟩ := hρ; exact ⟨_, rfl, r_law_same_3 found' parts' x5 hv6⟩) (rngT 0 (parts'.length : Int)) () _ ⟨_, rfl⟩ h.2)) (fun s7 w hw hs8 => by obtain ⟨_, rfl⟩ := hw; exact r_law_same_6)
theorem r_law_same_0 {j2 : Option Cel} (found' : Option (List (Option ((List Int) × Int)))) (parts' : List ((List Int) × Int)) (h : v_law_same_0 found' parts') : RtOk (b_law_same_5 [cD (qO (qL (qO (qT2 (qL qI) qI))) found'), cD (qL (qT2 (qL qI) qI) parts'), j2]) (fun r x => x = .fro (qB r)) (q_law_same_0 found' parts') :=
  rt_sif (tv_or (tv_b (ev_e2 ev_fro ev_c (g_isN (fun _ => rfl)))) (fun hb1 => tv_b (ev_e2 (ev_e1 (ev_o (e := qL (qO (qT2 (qL qI) qI))) ev_fro (h.1 hb1)) (g_len (k := .fro))) (ev_e1 ev_fro (g_len (k := .fro))) g_neI))) (fun hb2 => rt_seq r_law_same_1) (fun hb2 => RtOk.of (sq_nx rfl) (r_law_same_2 found' parts' (h.2 hb2)))
theorem r_law_same (found' : Option (List (Option ((List Int) × Int)))) (parts' : List ((List Int) × Int)) (h : v_law_same found' parts') : f_law_same [qO (qL (qO (qT2 (qL qI) qI))) found', qL (qT2 (qL qI) qI) parts'] = some (.ok (.fro (qB (q_law_same found' parts')))) :=
  fn_F (e := qB) (r_law_same_0 found' parts' h)
theorem r_law_are_1 {j0 : Option Cel} {j1 : Option Cel} {j2 : Option Cel}  : RtOk (b_law_are_0 [j0, j1, j2]) (fun r x => x = .fro (qB r)) (q_law_are_1) :=
  rt_ret ev_c rfl (by simp)
theorem r_law_are_4 {j0 : Option Cel} {j1 : Option Cel} {j2 : Option Cel}  : RtOk (b_law_are_1 [j0, j1, j2]) (fun r x => x = .fro (qB r)) (q_law_are_4) :=
  rt_ret ev_c rfl (by simp)
theorem r_law_are_3 (xs' : List Fr) (pairs_here' : List (Int × Int)) (k' : Int) (h : v_law_are_3 xs' pairs_here' k') : FlOk (b_law_are_2 [cD (qL qFr xs'), cD (qL (qT2 qI qI) pairs_here'), cD (qI k')]) (fun (s : Unit) w => ∃ (j2 : Option Cel), w = [cD (qL qFr xs'), cD (qL (qT2 qI qI) pairs_here'), j2]) (fun (s : Unit) w => ∃ (j2 : Option Cel), w = [cD (qL qFr xs'), cD (qL (qT2 qI qI) pairs_here'), j2]) (fun r x => x = .fro (qB r)) (q_law_are_3 xs' pairs_here' k') :=
  fl_if (tv_not (tv_tru (ev_call (r_law_is_x2 (gt xs' k') (gt pairs_here' k') h.2.2) (av_cons (ev_e2 ev_fro ev_fro (g_ix (k := .fro) (e := qFr) h.1)) rfl (av_cons (ev_e2 ev_fro ev_fro (g_ix (k := .fro) (e := qT2 qI qI) h.2.1)) rfl av_nil))) rfl)) (fun hb3 => RtOk.fl r_law_are_4) (fun hb3 => NxOk.fl (nx_next ⟨_, rfl⟩))
theorem r_law_are_6 {j0 : Option Cel} {j1 : Option Cel} {j2 : Option Cel}  : RtOk (b_law_are_3 [j0, j1, j2]) (fun r x => x = .fro (qB r)) (q_law_are_6) :=
  rt_ret ev_c rfl (by simp)
theorem r_law_are_2 {j2 : Option Cel} (xs' : List Fr) (pairs_here' : List (Int × Int)) (h : v_law_are_2 xs' pairs_here') : RtOk (b_law_are_4 [cD (qL qFr xs'), cD (qL (qT2 qI qI) pairs_here'), j2]) (fun r x => x = .fro (qB r)) (q_law_are_2 xs' pairs_here') :=
  sq_XR (E := (fun (s : Unit) w => ∃ (j2 : Option Cel), w = [cD (qL qFr xs'), cD (qL (qT2 qI qI) pairs_here'), j2])) (B0 := (fun _ _ => False)) (q := q_law_are_5 xs' pairs_here') (FlOk.of (sfor_eq (iv_r1 (ev_e1 ev_fro (g_len (k := .fro))) h.1)) (for_X (E := (fun (s : Unit) w => ∃ (j2 : Option Cel), w = [cD (qL qFr xs'), cD (qL (qT2 qI qI) pairs_here'), j2])) (V := fun (s4 : Unit) (x5 : Int) => v_law_are_3 xs' pairs_here' x5) (f := fun (s4 : Unit) (x5 : Int) => q_law_are_3 xs' pairs_here' x5) (e := qI) (fun s4 x5 ρ hρ hv6 => by obtain ⟨_, rfl⟩ := hρ; exact ⟨_, rfl, r_law_are_3 xs' pairs_here' x5 hv6⟩) (rngT 0 (pairs_here'.length : Int)) () _ ⟨_, rfl⟩ h.2)) (fun s7 w hw hs8 => by obtain ⟨_, rfl⟩ := hw; exact r_law_are_6)
theorem r_law_are_0 {j2 : Option Cel} (xs' : List Fr) (pairs_here' : List (Int × Int)) (h : v_law_are_0 xs' pairs_here') : RtOk (b_law_are_5 [cD (qL qFr xs'), cD (qL (qT2 qI qI) pairs_here'), j2]) (fun r x => x = .fro (qB r)) (q_law_are_0 xs' pairs_here') :=
  rt_sif (tv_or (tv_not (tv_tru (ev_e1 ev_fro rfl) rfl)) (fun hb1 => tv_b (ev_e2 (ev_e1 ev_fro (g_len (k := .fro))) (ev_e1 ev_fro (g_len (k := .fro))) g_neI))) (fun hb2 => rt_seq r_law_are_1) (fun hb2 => RtOk.of (sq_nx rfl) (r_law_are_2 xs' pairs_here' (h hb2)))
theorem r_law_are (xs' : List Fr) (pairs_here' : List (Int × Int)) (h : v_law_are xs' pairs_here') : f_law_are [qL qFr xs', qL (qT2 qI qI) pairs_here'] = some (.ok (.fro (qB (q_law_are xs' pairs_here')))) :=
  fn_F (e := qB) (r_law_are_0 xs' pairs_here' h)
noncomputable def q_law_3 (script' : List Int) (choices' : List Int) (orders' : List Int) : (List Int) :=
  [(3 : Int), (gt orders' (1 : Int))]
def v_law_3 (script' : List Int) (choices' : List Int) (orders' : List Int) : Prop :=
  inR orders' (1 : Int)
noncomputable def q_law_4 (script' : List Int) (choices' : List Int) (orders' : List Int) : (List Int) :=
  if (decide ((Int.fmod (Int.fdiv (gt choices' (0 : Int)) (4 : Int)) (8 : Int)) = (1 : Int))) then q_law_3 script' choices' orders' else orders'
noncomputable def q_law_9 (script' : List Int) (choices' : List Int) (first' : List ((List Int) × Int)) (second' : List ((List Int) × Int)) (n' : Int) : Int :=
  (Int.fmod (gt choices' (1 : Int)) (201 : Int))
def v_law_9 (script' : List Int) (choices' : List Int) (first' : List ((List Int) × Int)) (second' : List ((List Int) × Int)) (n' : Int) : Prop :=
  inR choices' (1 : Int)
noncomputable def q_law_10 (script' : List Int) (choices' : List Int) (first' : List ((List Int) × Int)) (second' : List ((List Int) × Int)) (n' : Int) : Int :=
  if (decide ((Int.fmod (Int.fdiv (gt choices' (2 : Int)) (13 : Int)) (8 : Int)) = (1 : Int))) then q_law_9 script' choices' first' second' n' else n'
noncomputable def q_law_13 (script' : List Int) (first' : List ((List Int) × Int)) (second' : List ((List Int) × Int)) (n' : Int) (pairs_here' : List (Int × Int)) : (List (Int × Int)) :=
  q_law_pairs (q_law_cell script' (2 : Int)) (n' + (9 : Int))
def v_law_13 (script' : List Int) (first' : List ((List Int) × Int)) (second' : List ((List Int) × Int)) (n' : Int) (pairs_here' : List (Int × Int)) : Prop :=
  (v_law_cell script' (2 : Int) ∧ v_law_pairs (q_law_cell script' (2 : Int)) (n' + (9 : Int)))
noncomputable def q_law_14 (script' : List Int) (first' : List ((List Int) × Int)) (second' : List ((List Int) × Int)) (n' : Int) (pairs_here' : List (Int × Int)) : (List (Int × Int)) :=
  if (decide (n' < (13 : Int))) then q_law_13 script' first' second' n' pairs_here' else pairs_here'
noncomputable def q_law_19  : Bool :=
  false
noncomputable def q_law_23  : Bool :=
  false
noncomputable def q_law_25  : Bool :=
  false
noncomputable def q_law_27  : Bool :=
  false
noncomputable def q_law_28 (pairs_here' : List (Int × Int)) (values' : List Fr) : Bool :=
  q_law_are values' pairs_here'
def v_law_28 (pairs_here' : List (Int × Int)) (values' : List Fr) : Prop :=
  v_law_are values' pairs_here'
noncomputable def q_law_26 (first' : List ((List Int) × Int)) (second' : List ((List Int) × Int)) (pairs_here' : List (Int × Int)) (values' : List Fr) (a' : Opr) (b' : Opr) : Bool :=
  if ((!(q_law_same (q_law_read_operator a') first')) || (!(q_law_same (q_law_read_operator b') second'))) then q_law_27 else q_law_28 pairs_here' values'
def v_law_26 (first' : List ((List Int) × Int)) (second' : List ((List Int) × Int)) (pairs_here' : List (Int × Int)) (values' : List Fr) (a' : Opr) (b' : Opr) : Prop :=
  (v_law_read_operator a' ∧ v_law_same (q_law_read_operator a') first' ∧ ((!(q_law_same (q_law_read_operator a') first')) = false → (v_law_read_operator b' ∧ v_law_same (q_law_read_operator b') second')) ∧ (((!(q_law_same (q_law_read_operator a') first')) || (!(q_law_same (q_law_read_operator b') second'))) = false → v_law_28 pairs_here' values'))
noncomputable def q_law_24 (first' : List ((List Int) × Int)) (second' : List ((List Int) × Int)) (pairs_here' : List (Int × Int)) (values' : List Fr) (a' : Opr) (b' : Opr) (product' : Opr) : Bool :=
  if (!(q_law_same (q_law_read_operator product') (q_law_after first' second'))) then q_law_25 else q_law_26 first' second' pairs_here' values' a' b'
def v_law_24 (first' : List ((List Int) × Int)) (second' : List ((List Int) × Int)) (pairs_here' : List (Int × Int)) (values' : List Fr) (a' : Opr) (b' : Opr) (product' : Opr) : Prop :=
  (v_law_read_operator product' ∧ v_law_after first' second' ∧ v_law_same (q_law_read_operator product') (q_law_after first' second') ∧ ((!(q_law_same (q_law_read_operator product') (q_law_after first' second'))) = false → v_law_26 first' second' pairs_here' values' a' b'))
noncomputable def q_law_22 (first' : List ((List Int) × Int)) (second' : List ((List Int) × Int)) (n' : Int) (pairs_here' : List (Int × Int)) (values' : List Fr) (a' : Opr) (b' : Opr) (between' : List (Int × Int)) (product' : Opr) : Bool :=
  if (!(q_law_is_x2 (q_Operator_apply_at product' values' n') (q_law_applied first' between' n'))) then q_law_23 else q_law_24 first' second' pairs_here' values' a' b' product'
def v_law_22 (first' : List ((List Int) × Int)) (second' : List ((List Int) × Int)) (n' : Int) (pairs_here' : List (Int × Int)) (values' : List Fr) (a' : Opr) (b' : Opr) (between' : List (Int × Int)) (product' : Opr) : Prop :=
  (v_Operator_apply_at product' values' n' ∧ v_law_applied first' between' n' ∧ v_law_is_x2 (q_Operator_apply_at product' values' n') (q_law_applied first' between' n') ∧ ((!(q_law_is_x2 (q_Operator_apply_at product' values' n') (q_law_applied first' between' n'))) = false → v_law_24 first' second' pairs_here' values' a' b' product'))
noncomputable def q_law_21 (first' : List ((List Int) × Int)) (second' : List ((List Int) × Int)) (n' : Int) (pairs_here' : List (Int × Int)) (values' : List Fr) (a' : Opr) (b' : Opr) (between' : List (Int × Int)) : Bool :=
  q_law_22 first' second' n' pairs_here' values' a' b' between' (q_Operator_mul a' b')
def v_law_21 (first' : List ((List Int) × Int)) (second' : List ((List Int) × Int)) (n' : Int) (pairs_here' : List (Int × Int)) (values' : List Fr) (a' : Opr) (b' : Opr) (between' : List (Int × Int)) : Prop :=
  (v_Operator_mul a' b' ∧ v_law_22 first' second' n' pairs_here' values' a' b' between' (q_Operator_mul a' b'))
noncomputable def q_law_20 (first' : List ((List Int) × Int)) (second' : List ((List Int) × Int)) (n' : Int) (pairs_here' : List (Int × Int)) (values' : List Fr) (a' : Opr) (b' : Opr) : Bool :=
  q_law_21 first' second' n' pairs_here' values' a' b' (((rngT 0 n').map fun (x9 : Int) => ((0 : Int), (1 : Int))) ++ ((rngT 0 (first'.length : Int)).map fun (x11 : Int) => q_law_applied second' pairs_here' (n' + x11)))
def v_law_20 (first' : List ((List Int) × Int)) (second' : List ((List Int) × Int)) (n' : Int) (pairs_here' : List (Int × Int)) (values' : List Fr) (a' : Opr) (b' : Opr) : Prop :=
  (rOk n' = true ∧ (rngT 0 n').length ≤ LINE ∧ rOk (first'.length : Int) = true ∧ (∀ x11, x11 ∈ (rngT 0 (first'.length : Int)) → v_law_applied second' pairs_here' (n' + x11)) ∧ (rngT 0 (first'.length : Int)).length ≤ LINE ∧ ((rngT 0 n').map fun (x9 : Int) => ((0 : Int), (1 : Int))).length + ((rngT 0 (first'.length : Int)).map fun (x11 : Int) => q_law_applied second' pairs_here' (n' + x11)).length ≤ LINE ∧ v_law_21 first' second' n' pairs_here' values' a' b' (((rngT 0 n').map fun (x9 : Int) => ((0 : Int), (1 : Int))) ++ ((rngT 0 (first'.length : Int)).map fun (x11 : Int) => q_law_applied second' pairs_here' (n' + x11))))
noncomputable def q_law_18 (first' : List ((List Int) × Int)) (second' : List ((List Int) × Int)) (n' : Int) (pairs_here' : List (Int × Int)) (values' : List Fr) (a' : Opr) (b' : Opr) : Bool :=
  if (!(q_law_is_x2 (q_Operator_apply_at a' values' n') (q_law_applied first' pairs_here' n'))) then q_law_19 else q_law_20 first' second' n' pairs_here' values' a' b'
def v_law_18 (first' : List ((List Int) × Int)) (second' : List ((List Int) × Int)) (n' : Int) (pairs_here' : List (Int × Int)) (values' : List Fr) (a' : Opr) (b' : Opr) : Prop :=
  (v_Operator_apply_at a' values' n' ∧ v_law_applied first' pairs_here' n' ∧ v_law_is_x2 (q_Operator_apply_at a' values' n') (q_law_applied first' pairs_here' n') ∧ ((!(q_law_is_x2 (q_Operator_apply_at a' values' n') (q_law_applied first' pairs_here' n'))) = false → v_law_20 first' second' n' pairs_here' values' a' b'))
noncomputable def q_law_17 (first' : List ((List Int) × Int)) (second' : List ((List Int) × Int)) (n' : Int) (pairs_here' : List (Int × Int)) (values' : List Fr) (a' : Opr) : Bool :=
  q_law_18 first' second' n' pairs_here' values' a' (q_law_operator second')
def v_law_17 (first' : List ((List Int) × Int)) (second' : List ((List Int) × Int)) (n' : Int) (pairs_here' : List (Int × Int)) (values' : List Fr) (a' : Opr) : Prop :=
  (v_law_operator second' ∧ v_law_18 first' second' n' pairs_here' values' a' (q_law_operator second'))
noncomputable def q_law_16 (first' : List ((List Int) × Int)) (second' : List ((List Int) × Int)) (n' : Int) (pairs_here' : List (Int × Int)) (values' : List Fr) : Bool :=
  q_law_17 first' second' n' pairs_here' values' (q_law_operator first')
def v_law_16 (first' : List ((List Int) × Int)) (second' : List ((List Int) × Int)) (n' : Int) (pairs_here' : List (Int × Int)) (values' : List Fr) : Prop :=
  (v_law_operator first' ∧ v_law_17 first' second' n' pairs_here' values' (q_law_operator first'))
noncomputable def q_law_15 (first' : List ((List Int) × Int)) (second' : List ((List Int) × Int)) (n' : Int) (pairs_here' : List (Int × Int)) : Bool :=
  q_law_16 first' second' n' pairs_here' (q_law_vector pairs_here')
def v_law_15 (first' : List ((List Int) × Int)) (second' : List ((List Int) × Int)) (n' : Int) (pairs_here' : List (Int × Int)) : Prop :=
  (v_law_vector pairs_here' ∧ v_law_16 first' second' n' pairs_here' (q_law_vector pairs_here'))
noncomputable def q_law_12 (script' : List Int) (first' : List ((List Int) × Int)) (second' : List ((List Int) × Int)) (n' : Int) (pairs_here' : List (Int × Int)) : Bool :=
  q_law_15 first' second' n' (q_law_14 script' first' second' n' pairs_here')
def v_law_12 (script' : List Int) (first' : List ((List Int) × Int)) (second' : List ((List Int) × Int)) (n' : Int) (pairs_here' : List (Int × Int)) : Prop :=
  (((decide (n' < (13 : Int))) = true → v_law_13 script' first' second' n' pairs_here') ∧ v_law_15 first' second' n' (q_law_14 script' first' second' n' pairs_here'))
noncomputable def q_law_11 (script' : List Int) (first' : List ((List Int) × Int)) (second' : List ((List Int) × Int)) (n' : Int) : Bool :=
  q_law_12 script' first' second' n' (((rngT 0 n').map fun (x5 : Int) => ((0 : Int), (1 : Int))) ++ (q_law_pairs (q_law_cell script' (2 : Int)) (9 : Int)))
def v_law_11 (script' : List Int) (first' : List ((List Int) × Int)) (second' : List ((List Int) × Int)) (n' : Int) : Prop :=
  (rOk n' = true ∧ (rngT 0 n').length ≤ LINE ∧ v_law_cell script' (2 : Int) ∧ v_law_pairs (q_law_cell script' (2 : Int)) (9 : Int) ∧ ((rngT 0 n').map fun (x5 : Int) => ((0 : Int), (1 : Int))).length + (q_law_pairs (q_law_cell script' (2 : Int)) (9 : Int)).length ≤ LINE ∧ v_law_12 script' first' second' n' (((rngT 0 n').map fun (x5 : Int) => ((0 : Int), (1 : Int))) ++ (q_law_pairs (q_law_cell script' (2 : Int)) (9 : Int))))
noncomputable def q_law_8 (script' : List Int) (choices' : List Int) (first' : List ((List Int) × Int)) (second' : List ((List Int) × Int)) (n' : Int) : Bool :=
  q_law_11 script' first' second' (q_law_10 script' choices' first' second' n')
def v_law_8 (script' : List Int) (choices' : List Int) (first' : List ((List Int) × Int)) (second' : List ((List Int) × Int)) (n' : Int) : Prop :=
  (inR choices' (2 : Int) ∧ ((decide ((Int.fmod (Int.fdiv (gt choices' (2 : Int)) (13 : Int)) (8 : Int)) = (1 : Int))) = true → v_law_9 script' choices' first' second' n') ∧ v_law_11 script' first' second' (q_law_10 script' choices' first' second' n'))
noncomputable def q_law_7 (script' : List Int) (choices' : List Int) (first' : List ((List Int) × Int)) (second' : List ((List Int) × Int)) : Bool :=
  q_law_8 script' choices' first' second' (Int.fmod (gt choices' (2 : Int)) (13 : Int))
def v_law_7 (script' : List Int) (choices' : List Int) (first' : List ((List Int) × Int)) (second' : List ((List Int) × Int)) : Prop :=
  (inR choices' (2 : Int) ∧ v_law_8 script' choices' first' second' (Int.fmod (gt choices' (2 : Int)) (13 : Int)))
noncomputable def q_law_6 (script' : List Int) (choices' : List Int) (orders' : List Int) (first' : List ((List Int) × Int)) : Bool :=
  q_law_7 script' choices' first' (q_law_cut (q_law_drawn script' (8 : Int) (gt orders' (1 : Int)) (2 : Int)))
def v_law_6 (script' : List Int) (choices' : List Int) (orders' : List Int) (first' : List ((List Int) × Int)) : Prop :=
  (inR orders' (1 : Int) ∧ v_law_drawn script' (8 : Int) (gt orders' (1 : Int)) (2 : Int) ∧ v_law_cut (q_law_drawn script' (8 : Int) (gt orders' (1 : Int)) (2 : Int)) ∧ v_law_7 script' choices' first' (q_law_cut (q_law_drawn script' (8 : Int) (gt orders' (1 : Int)) (2 : Int))))
noncomputable def q_law_5 (script' : List Int) (choices' : List Int) (orders' : List Int) : Bool :=
  q_law_6 script' choices' orders' (q_law_cut (q_law_drawn script' (4 : Int) (gt orders' (0 : Int)) (2 : Int)))
def v_law_5 (script' : List Int) (choices' : List Int) (orders' : List Int) : Prop :=
  (inR orders' (0 : Int) ∧ v_law_drawn script' (4 : Int) (gt orders' (0 : Int)) (2 : Int) ∧ v_law_cut (q_law_drawn script' (4 : Int) (gt orders' (0 : Int)) (2 : Int)) ∧ v_law_6 script' choices' orders' (q_law_cut (q_law_drawn script' (4 : Int) (gt orders' (0 : Int)) (2 : Int))))
noncomputable def q_law_2 (script' : List Int) (choices' : List Int) (orders' : List Int) : Bool :=
  q_law_5 script' choices' (q_law_4 script' choices' orders')
def v_law_2 (script' : List Int) (choices' : List Int) (orders' : List Int) : Prop :=
  (inR choices' (0 : Int) ∧ ((decide ((Int.fmod (Int.fdiv (gt choices' (0 : Int)) (4 : Int)) (8 : Int)) = (1 : Int))) = true → v_law_3 script' choices' orders') ∧ v_law_5 script' choices' (q_law_4 script' choices' orders'))
noncomputable def q_law_1 (script' : List Int) (choices' : List Int) : Bool :=
  q_law_2 script' choices' ((cutT choices' none (some (2 : Int))).map fun (x1 : Int) => ((Int.fmod x1 (4 : Int)) - (1 : Int)))
def v_law_1 (script' : List Int) (choices' : List Int) : Prop :=
  ((cutT choices' none (some (2 : Int))).length ≤ LINE ∧ v_law_2 script' choices' ((cutT choices' none (some (2 : Int))).map fun (x1 : Int) => ((Int.fmod x1 (4 : Int)) - (1 : Int))))
noncomputable def q_law_0 (script' : List Int) : Bool :=
  q_law_1 script' (q_law_digits (q_law_cell script' (0 : Int)) (1608 : Int) (3 : Int))
def v_law_0 (script' : List Int) : Prop :=
  (v_law_cell script' (0 : Int) ∧ v_law_digits (q_law_cell script' (0 : Int)) (1608 : Int) (3 : Int) ∧ v_law_1 script' (q_law_digits (q_law_cell script' (0 : Int)) (1608 : Int) (3 : Int)))
noncomputable def q_law (script' : List Int) : Bool :=
  q_law_0 script'
def v_law (script' : List Int) : Prop :=
  v_law_0 script'
theorem r_law_3 {j3 : Option Cel} {j4 : Option Cel} {j5 : Option Cel} {j6 : Option Cel} {j7 : Option Cel} {j8 : Option Cel} {j9 : Option Cel} {j10 : Option Cel} {j11 : Option Cel} {j12 : Option Cel} {j13 : Option Cel} (script' : List Int) (choices' : List Int) (orders' : List Int) (h : v_law_3 script' choices' orders') : NxOk (b_law_0 [cD (qL qI script'), cO (choices'.map qI), cO (orders'.map qI), j3, j4, j5, j6, j7, j8, j9, j10, j11, j12, j13]) (fun (s : (List Int)) w => ∃ (j3 : Option Cel) (j4 : Option Cel) (j5 : Option Cel) (j6 : Option Cel) (j7 : Option Cel) (j8 : Option Cel) (j9 : Option Cel) (j10 : Option Cel) (j11 : Option Cel) (j12 : Option Cel) (j13 : Option Cel), w = [cD (qL qI script'), cO (choices'.map qI), cO (s.map qI), j3, j4, j5, j6, j7, j8, j9, j10, j11, j12, j13]) (q_law_3 script' choices' orders') :=
  nx_st (ρ' := [cD (qL qI script'), cO (choices'.map qI), cO (([(3 : Int), (gt orders' (1 : Int))]).map qI), _, _, _, _, _, _, _, _, _, _, _]) (st_set (ev_lst (av_cons ev_c rfl (av_cons (ev_e2 ev_own ev_c (g_ix (k := .bor) (e := qI) h)) rfl av_nil)) (Nat.le_of_ble_eq_true rfl)) rfl rfl) ⟨_, _, _, _, _, _, _, _, _, _, _, rfl⟩
theorem r_law_9 {j2 : Option Cel} {j3 : Option Cel} {j7 : Option Cel} {j8 : Option Cel} {j9 : Option Cel} {j10 : Option Cel} {j11 : Option Cel} {j12 : Option Cel} {j13 : Option Cel} (script' : List Int) (choices' : List Int) (first' : List ((List Int) × Int)) (second' : List ((List Int) × Int)) (n' : Int) (h : v_law_9 script' choices' first' second' n') : NxOk (b_law_1 [cD (qL qI script'), cO (choices'.map qI), j2, j3, cO (first'.map (qT2 (qL qI) qI)), cO (second'.map (qT2 (qL qI) qI)), cD (qI n'), j7, j8, j9, j10, j11, j12, j13]) (fun (s : Int) w => ∃ (j1 : Option Cel) (j2 : Option Cel) (j3 : Option Cel) (j7 : Option Cel) (j8 : Option Cel) (j9 : Option Cel) (j10 : Option Cel) (j11 : Option Cel) (j12 : Option Cel) (j13 : Option Cel), w = [cD (qL qI script'), j1, j2, j3, cO (first'.map (qT2 (qL qI) qI)), cO (second'.map (qT2 (qL qI) qI)), cD (qI s), j7, j8, j9, j10, j11, j12, j13]) (q_law_9 script' choices' first' second' n') :=
  nx_st (ρ' := [cD (qL qI script'), cO (choices'.map qI), _, _, cO (first'.map (qT2 (qL qI) qI)), cO (second'.map (qT2 (qL qI) qI)), cD (qI (Int.fmod (gt choices' (1 : Int)) (201 : Int))), _, _, _, _, _, _, _]) (st_set (ev_e2 (ev_e1 (ev_e2 ev_own ev_c (g_ix (k := .bor) (e := qI) h)) rfl) ev_c (g_mod (by decide))) rfl rfl) ⟨_, _, _, _, _, _, _, _, _, _, rfl⟩
theorem r_law_13 {j1 : Option Cel} {j2 : Option Cel} {j3 : Option Cel} {j8 : Option Cel} {j9 : Option Cel} {j10 : Option Cel} {j11 : Option Cel} {j12 : Option Cel} {j13 : Option Cel} (script' : List Int) (first' : List ((List Int) × Int)) (second' : List ((List Int) × Int)) (n' : Int) (pairs_here' : List (Int × Int)) (h : v_law_13 script' first' second' n' pairs_here') : NxOk (b_law_2 [cD (qL qI script'), j1, j2, j3, cO (first'.map (qT2 (qL qI) qI)), cO (second'.map (qT2 (qL qI) qI)), cD (qI n'), cO (pairs_here'.map (qT2 qI qI)), j8, j9, j10, j11, j12, j13]) (fun (s : (List (Int × Int))) w => ∃ (j0 : Option Cel) (j1 : Option Cel) (j2 : Option Cel) (j3 : Option Cel) (j8 : Option Cel) (j9 : Option Cel) (j10 : Option Cel) (j11 : Option Cel) (j12 : Option Cel) (j13 : Option Cel), w = [j0, j1, j2, j3, cO (first'.map (qT2 (qL qI) qI)), cO (second'.map (qT2 (qL qI) qI)), cD (qI n'), cO (s.map (qT2 qI qI)), j8, j9, j10, j11, j12, j13]) (q_law_13 script' first' second' n' pairs_here') :=
  nx_st (ρ' := [cD (qL qI script'), _, _, _, cO (first'.map (qT2 (qL qI) qI)), cO (second'.map (qT2 (qL qI) qI)), cD (qI n'), cO ((q_law_pairs (q_law_cell script' (2 : Int)) (n' + (9 : Int))).map (qT2 qI qI)), _, _, _, _, _, _]) (st_set (ev_call (r_law_pairs (q_law_cell script' (2 : Int)) (n' + (9 : Int)) h.2) (av_cons (ev_call (r_law_cell script' (2 : Int) h.1) (av_cons ev_fro rfl (av_cons ev_c rfl av_nil))) rfl (av_cons (ev_e2 ev_fro ev_c rfl) rfl av_nil))) rfl rfl) ⟨_, _, _, _, _, _, _, _, _, _, rfl⟩
theorem r_law_19 {j0 : Option Cel} {j1 : Option Cel} {j2 : Option Cel} {j3 : Option Cel} {j4 : Option Cel} {j5 : Option Cel} {j6 : Option Cel} {j7 : Option Cel} {j8 : Option Cel} {j9 : Option Cel} {j10 : Option Cel} {j11 : Option Cel} {j12 : Option Cel} {j13 : Option Cel}  : RtOk (b_law_3 [j0, j1, j2, j3, j4, j5, j6, j7, j8, j9, j10, j11, j12, j13]) (fun r x => x = .fro (qB r)) (q_law_19) :=
  rt_ret ev_c rfl (by simp)
theorem r_law_23 {j0 : Option Cel} {j1 : Option Cel} {j2 : Option Cel} {j3 : Option Cel} {j4 : Option Cel} {j5 : Option Cel} {j6 : Option Cel} {j7 : Option Cel} {j8 : Option Cel} {j9 : Option Cel} {j10 : Option Cel} {j11 : Option Cel} {j12 : Option Cel} {j13 : Option Cel}  : RtOk (b_law_4 [j0, j1, j2, j3, j4, j5, j6, j7, j8, j9, j10, j11, j12, j13]) (fun r x => x = .fro (qB r)) (q_law_23) :=
  rt_ret ev_c rfl (by simp)
theorem r_law_25 {j0 : Option Cel} {j1 : Option Cel} {j2 : Option Cel} {j3 : Option Cel} {j4 : Option Cel} {j5 : Option Cel} {j6 : Option Cel} {j7 : Option Cel} {j8 : Option Cel} {j9 : Option Cel} {j10 : Option Cel} {j11 : Option Cel} {j12 : Option Cel} {j13 : Option Cel}  : RtOk (b_law_5 [j0, j1, j2, j3, j4, j5, j6, j7, j8, j9, j10, j11, j12, j13]) (fun r x => x = .fro (qB r)) (q_law_25) :=
  rt_ret ev_c rfl (by simp)
theorem r_law_27 {j0 : Option Cel} {j1 : Option Cel} {j2 : Option Cel} {j3 : Option Cel} {j4 : Option Cel} {j5 : Option Cel} {j6 : Option Cel} {j7 : Option Cel} {j8 : Option Cel} {j9 : Option Cel} {j10 : Option Cel} {j11 : Option Cel} {j12 : Option Cel} {j13 : Option Cel}  : RtOk (b_law_6 [j0, j1, j2, j3, j4, j5, j6, j7, j8, j9, j10, j11, j12, j13]) (fun r x => x = .fro (qB r)) (q_law_27) :=
  rt_ret ev_c rfl (by simp)
theorem r_law_28 {j0 : Option Cel} {j1 : Option Cel} {j2 : Option Cel} {j3 : Option Cel} {j4 : Option Cel} {j5 : Option Cel} {j6 : Option Cel} {j8 : Option Cel} {j10 : Option Cel} {j11 : Option Cel} {j12 : Option Cel} {j13 : Option Cel} (pairs_here' : List (Int × Int)) (values' : List Fr) (h : v_law_28 pairs_here' values') : RtOk (b_law_7 [j0, j1, j2, j3, j4, j5, j6, cD (qL (qT2 qI qI) pairs_here'), j8, cO (values'.map qFr), j10, j11, j12, j13]) (fun r x => x = .fro (qB r)) (q_law_28 pairs_here' values') :=
  rt_ret (ev_borF rfl (ev_bor (ρ' := [_, _, _, _, _, _, _, cD (qL (qT2 qI qI) pairs_here'), _, cD (qL qFr values'), _, _, _, _]) rfl rfl (ev_call (r_law_are values' pairs_here' h) (av_cons ev_fro rfl (av_cons ev_fro rfl av_nil))) (nl_fro (e := qB) _))) rfl (by simp)
theorem r_law_26 {j0 : Option Cel} {j1 : Option Cel} {j2 : Option Cel} {j3 : Option Cel} {j6 : Option Cel} {j8 : Option Cel} {j12 : Option Cel} {j13 : Option Cel} (first' : List ((List Int) × Int)) (second' : List ((List Int) × Int)) (pairs_here' : List (Int × Int)) (values' : List Fr) (a' : Opr) (b' : Opr) (h : v_law_26 first' second' pairs_here' values' a' b') : RtOk (b_law_8 [j0, j1, j2, j3, cO (first'.map (qT2 (qL qI) qI)), cO (second'.map (qT2 (qL qI) qI)), j6, cD (qL (qT2 qI qI) pairs_here'), j8, cO (values'.map qFr), cD (qOpr a'), cD (qOpr b'), j12, j13]) (fun r x => x = .fro (qB r)) (q_law_26 first' second' pairs_here' values' a' b') :=
  rt_sif (tv_bor (ρ' := [_, _, _, _, cO (first'.map (qT2 (qL qI) qI)), cD (qL (qT2 (qL qI) qI) second'), _, cD (qL (qT2 qI qI) pairs_here'), _, cO (values'.map qFr), cD (qOpr a'), cD (qOpr b'), _, _]) rfl rfl (tv_bor (ρ' := [_, _, _, _, cD (qL (qT2 (qL qI) qI) first'), cD (qL (qT2 (qL qI) qI) second'), _, cD (qL (qT2 qI qI) pairs_here'), _, cO (values'.map qFr), cD (qOpr a'), cD (qOpr b'), _, _]) rfl rfl (tv_or (tv_not (tv_tru (ev_call (r_law_same (q_law_read_operator a') first' h.2.1) (av_cons (ev_call (r_law_read_operator a' h.1) (av_cons ev_fro rfl av_nil)) fz_O (av_cons ev_fro rfl av_nil))) rfl)) (fun hb15 => tv_not (tv_tru (ev_call (r_law_same (q_law_read_operator b') second' (h.2.2.1 hb15).2) (av_cons (ev_call (r_law_read_operator b' (h.2.2.1 hb15).1) (av_cons ev_fro rfl av_nil)) fz_O (av_cons ev_fro rfl av_nil))) rfl))))) (fun hb16 => rt_seq r_law_27) (fun hb16 => RtOk.of (sq_nx rfl) (r_law_28 pairs_here' values' (h.2.2.2 hb16)))
theorem r_law_24 {j0 : Option Cel} {j1 : Option Cel} {j2 : Option Cel} {j3 : Option Cel} {j6 : Option Cel} {j8 : Option Cel} {j12 : Option Cel} (first' : List ((List Int) × Int)) (second' : List ((List Int) × Int)) (pairs_here' : List (Int × Int)) (values' : List Fr) (a' : Opr) (b' : Opr) (product' : Opr) (h : v_law_24 first' second' pairs_here' values' a' b' product') : RtOk (b_law_9 [j0, j1, j2, j3, cO (first'.map (qT2 (qL qI) qI)), cO (second'.map (qT2 (qL qI) qI)), j6, cD (qL (qT2 qI qI) pairs_here'), j8, cO (values'.map qFr), cD (qOpr a'), cD (qOpr b'), j12, cD (qOpr product')]) (fun r x => x = .fro (qB r)) (q_law_24 first' second' pairs_here' values' a' b' product') :=
  rt_sif (tv_bor (ρ' := [_, _, _, _, cO (first'.map (qT2 (qL qI) qI)), cD (qL (qT2 (qL qI) qI) second'), _, cD (qL (qT2 qI qI) pairs_here'), _, cO (values'.map qFr), cD (qOpr a'), cD (qOpr b'), _, cD (qOpr product')]) rfl rfl (tv_bor (ρ' := [_, _, _, _, cD (qL (qT2 (qL qI) qI) first'), cD (qL (qT2 (qL qI) qI) second'), _, cD (qL (qT2 qI qI) pairs_here'), _, cO (values'.map qFr), cD (qOpr a'), cD (qOpr b'), _, cD (qOpr product')]) rfl rfl (tv_not (tv_tru (ev_call (r_law_same (q_law_read_operator product') (q_law_after first' second') h.2.2.1) (av_cons (ev_call (r_law_read_operator product' h.1) (av_cons ev_fro rfl av_nil)) fz_O (av_cons (ev_call (r_law_after first' second' h.2.1) (av_cons ev_fro rfl (av_cons ev_fro rfl av_nil))) rfl av_nil))) rfl)))) (fun hb14 => rt_seq r_law_25) (fun hb14 => RtOk.of (sq_nx rfl) (r_law_26 first' second' pairs_here' values' a' b' (h.2.2.2 hb14)))
theorem r_law_22 {j0 : Option Cel} {j1 : Option Cel} {j2 : Option Cel} {j3 : Option Cel} {j8 : Option Cel} (first' : List ((List Int) × Int)) (second' : List ((List Int) × Int)) (n' : Int) (pairs_here' : List (Int × Int)) (values' : List Fr) (a' : Opr) (b' : Opr) (between' : List (Int × Int)) (product' : Opr) (h : v_law_22 first' second' n' pairs_here' values' a' b' between' product') : RtOk (b_law_10 [j0, j1, j2, j3, cO (first'.map (qT2 (qL qI) qI)), cO (second'.map (qT2 (qL qI) qI)), cD (qI n'), cD (qL (qT2 qI qI) pairs_here'), j8, cO (values'.map qFr), cD (qOpr a'), cD (qOpr b'), cO (between'.map (qT2 qI qI)), cD (qOpr product')]) (fun r x => x = .fro (qB r)) (q_law_22 first' second' n' pairs_here' values' a' b' between' product') :=
  rt_sif (tv_bor (ρ' := [_, _, _, _, cO (first'.map (qT2 (qL qI) qI)), cO (second'.map (qT2 (qL qI) qI)), cD (qI n'), cD (qL (qT2 qI qI) pairs_here'), _, cO (values'.map qFr), cD (qOpr a'), cD (qOpr b'), cD (qL (qT2 qI qI) between'), cD (qOpr product')]) rfl rfl (tv_bor (ρ' := [_, _, _, _, cD (qL (qT2 (qL qI) qI) first'), cO (second'.map (qT2 (qL qI) qI)), cD (qI n'), cD (qL (qT2 qI qI) pairs_here'), _, cO (values'.map qFr), cD (qOpr a'), cD (qOpr b'), cD (qL (qT2 qI qI) between'), cD (qOpr product')]) rfl rfl (tv_bor (ρ' := [_, _, _, _, cD (qL (qT2 (qL qI) qI) first'), cO (second'.map (qT2 (qL qI) qI)), cD (qI n'), cD (qL (qT2 qI qI) pairs_here'), _, cD (qL qFr values'), cD (qOpr a'), cD (qOpr b'), cD (qL (qT2 qI qI) between'), cD (qOpr product')]) rfl rfl (tv_not (tv_tru (ev_call (r_law_is_x2 (q_Operator_apply_at product' values' n') (q_law_applied first' between' n') h.2.2.1) (av_cons (ev_meth (gD := (fun ds => ds)) (r_Operator_apply_at product' values' n' h.1) ev_fro (av_cons ev_fro rfl (av_cons ev_fro rfl av_nil)) rfl rfl rfl) rfl (av_cons (ev_call (r_law_applied first' between' n' h.2.1) (av_cons ev_fro rfl (av_cons ev_fro rfl (av_cons ev_fro rfl av_nil)))) rfl av_nil))) rfl))))) (fun hb13 => rt_seq r_law_23) (fun hb13 => RtOk.of (sq_nx rfl) (r_law_24 first' second' pairs_here' values' a' b' product' (h.2.2.2 hb13)))
theorem r_law_21 {j0 : Option Cel} {j1 : Option Cel} {j2 : Option Cel} {j3 : Option Cel} {j8 : Option Cel} {j13 : Option Cel} (first' : List ((List Int) × Int)) (second' : List ((List Int) × Int)) (n' : Int) (pairs_here' : List (Int × Int)) (values' : List Fr) (a' : Opr) (b' : Opr) (between' : List (Int × Int)) (h : v_law_21 first' second' n' pairs_here' values' a' b' between') : RtOk (b_law_11 [j0, j1, j2, j3, cO (first'.map (qT2 (qL qI) qI)), cO (second'.map (qT2 (qL qI) qI)), cD (qI n'), cD (qL (qT2 qI qI) pairs_here'), j8, cO (values'.map qFr), cD (qOpr a'), cD (qOpr b'), cO (between'.map (qT2 qI qI)), j13]) (fun r x => x = .fro (qB r)) (q_law_21 first' second' n' pairs_here' values' a' b' between') :=
  RtOk.of (sq_nx (ρ' := [_, _, _, _, cO (first'.map (qT2 (qL qI) qI)), cO (second'.map (qT2 (qL qI) qI)), cD (qI n'), cD (qL (qT2 qI qI) pairs_here'), _, cO (values'.map qFr), cD (qOpr a'), cD (qOpr b'), cO (between'.map (qT2 qI qI)), cD (qOpr (q_Operator_mul a' b'))]) (st_set (ev_e2 ev_fro ev_fro (g_own (r_Operator_mul a' b' h.1) rfl rfl rfl)) rfl rfl)) (r_law_22 first' second' n' pairs_here' values' a' b' between' (q_Operator_mul a' b') h.2)
theorem r_law_20 {j0 : Option Cel} {j1 : Option Cel} {j2 : Option Cel} {j3 : Option Cel} {j8 : Option Cel} {j12 : Option Cel} {j13 : Option Cel} (first' : List ((List Int) × Int)) (second' : List ((List Int) × Int)) (n' : Int) (pairs_here' : List (Int × Int)) (values' : List Fr) (a' : Opr) (b' : Opr) (h : v_law_20 first' second' n' pairs_here' values' a' b') : RtOk (b_law_12 [j0, j1, j2, j3, cO (first'.map (qT2 (qL qI) qI)), cO (second'.map (qT2 (qL qI) qI)), cD (qI n'), cD (qL (qT2 qI qI) pairs_here'), j8, cO (values'.map qFr), cD (qOpr a'), cD (qOpr b'), j12, j13]) (fun r x => x = .fro (qB r)) (q_law_20 first' second' n' pairs_here' values' a' b') :=
  RtOk.of (sq_nx (ρ' := [_, _, _, _, cO (first'.map (qT2 (qL qI) qI)), cO (second'.map (qT2 (qL qI) qI)), cD (qI n'), cD (qL (qT2 qI qI) pairs_here'), _, cO (values'.map qFr), cD (qOpr a'), cD (qOpr b'), cO ((((rngT 0 n').map fun (x9 : Int) => ((0 : Int), (1 : Int))) ++ ((rngT 0 (first'.length : Int)).map fun (x11 : Int) => q_law_applied second' pairs_here' (n' + x11))).map (qT2 qI qI)), _]) (st_set (ev_borF rfl (ev_bor (ρ' := [_, _, _, _, cO (first'.map (qT2 (qL qI) qI)), cD (qL (qT2 (qL qI) qI) second'), cD (qI n'), cD (qL (qT2 qI qI) pairs_here'), _, cO (values'.map qFr), cD (qOpr a'), cD (qOpr b'), _, _]) rfl rfl (ev_e2 (ev_lc (e := qI) (e' := qT2 qI qI) (F := fun (x9 : Int) => ((0 : Int), (1 : Int))) (xs := rngT 0 n') (iv_r1 ev_fro h.1) h.2.1 (fun x9 hx10 => ⟨[_, _, _, _, cO (first'.map (qT2 (qL qI) qI)), cD (qL (qT2 (qL qI) qI) second'), cD (qI n'), cD (qL (qT2 qI qI) pairs_here'), cD (qI x9), cO (values'.map qFr), cD (qOpr a'), cD (qOpr b'), _, _], _, rfl, ev_tup (av_cons ev_c rfl (av_cons ev_c rfl av_nil)) (Nat.le_of_ble_eq_true rfl), rfl⟩)) (ev_lc (e := qI) (e' := qT2 qI qI) (F := fun (x11 : Int) => q_law_applied second' pairs_here' (n' + x11)) (xs := rngT 0 (first'.length : Int)) (iv_r1 (ev_e1 ev_own (g_len (k := .bor))) h.2.2.1) h.2.2.2.2.1 (fun x11 hx12 => ⟨[_, _, _, _, cO (first'.map (qT2 (qL qI) qI)), cD (qL (qT2 (qL qI) qI) second'), cD (qI n'), cD (qL (qT2 qI qI) pairs_here'), cD (qI x11), cO (values'.map qFr), cD (qOpr a'), cD (qOpr b'), _, _], _, rfl, ev_call (r_law_applied second' pairs_here' (n' + x11) (h.2.2.2.1 x11 hx12)) (av_cons ev_fro rfl (av_cons ev_fro rfl (av_cons (ev_e2 ev_fro ev_fro rfl) rfl av_nil))), rfl⟩)) (g_cat (k := .own) (l := .own) (e := qT2 qI qI) (xs := ((rngT 0 n').map fun (x9 : Int) => ((0 : Int), (1 : Int)))) (ys := ((rngT 0 (first'.length : Int)).map fun (x11 : Int) => q_law_applied second' pairs_here' (n' + x11))) h.2.2.2.2.2.1)) (nl_own (e := qT2 qI qI) _))) rfl rfl)) (r_law_21 first' second' n' pairs_here' values' a' b' (((rngT 0 n').map fun (x9 : Int) => ((0 : Int), (1 : Int))) ++ ((rngT 0 (first'.length : Int)).map fun (x11 : Int) => q_law_applied second' pairs_here' (n' + x11))) h.2.2.2.2.2.2)
theorem r_law_18 {j0 : Option Cel} {j1 : Option Cel} {j2 : Option Cel} {j3 : Option Cel} {j8 : Option Cel} {j12 : Option Cel} {j13 : Option Cel} (first' : List ((List Int) × Int)) (second' : List ((List Int) × Int)) (n' : Int) (pairs_here' : List (Int × Int)) (values' : List Fr) (a' : Opr) (b' : Opr) (h : v_law_18 first' second' n' pairs_here' values' a' b') : RtOk (b_law_13 [j0, j1, j2, j3, cO (first'.map (qT2 (qL qI) qI)), cO (second'.map (qT2 (qL qI) qI)), cD (qI n'), cD (qL (qT2 qI qI) pairs_here'), j8, cO (values'.map qFr), cD (qOpr a'), cD (qOpr b'), j12, j13]) (fun r x => x = .fro (qB r)) (q_law_18 first' second' n' pairs_here' values' a' b') :=
  rt_sif (tv_borF rfl (tv_bor (ρ' := [_, _, _, _, cD (qL (qT2 (qL qI) qI) first'), cO (second'.map (qT2 (qL qI) qI)), cD (qI n'), cD (qL (qT2 qI qI) pairs_here'), _, cO (values'.map qFr), cD (qOpr a'), cD (qOpr b'), _, _]) rfl rfl (tv_bor (ρ' := [_, _, _, _, cD (qL (qT2 (qL qI) qI) first'), cO (second'.map (qT2 (qL qI) qI)), cD (qI n'), cD (qL (qT2 qI qI) pairs_here'), _, cD (qL qFr values'), cD (qOpr a'), cD (qOpr b'), _, _]) rfl rfl (tv_not (tv_tru (ev_call (r_law_is_x2 (q_Operator_apply_at a' values' n') (q_law_applied first' pairs_here' n') h.2.2.1) (av_cons (ev_meth (gD := (fun ds => ds)) (r_Operator_apply_at a' values' n' h.1) ev_fro (av_cons ev_fro rfl (av_cons ev_fro rfl av_nil)) rfl rfl rfl) rfl (av_cons (ev_call (r_law_applied first' pairs_here' n' h.2.1) (av_cons ev_fro rfl (av_cons ev_fro rfl (av_cons ev_fro rfl av_nil)))) rfl av_nil))) rfl))))) (fun hb8 => rt_seq r_law_19) (fun hb8 => RtOk.of (sq_nx rfl) (r_law_20 first' second' n' pairs_here' values' a' b' (h.2.2.2 hb8)))
theorem r_law_17 {j0 : Option Cel} {j1 : Option Cel} {j2 : Option Cel} {j3 : Option Cel} {j8 : Option Cel} {j11 : Option Cel} {j12 : Option Cel} {j13 : Option Cel} (first' : List ((List Int) × Int)) (second' : List ((List Int) × Int)) (n' : Int) (pairs_here' : List (Int × Int)) (values' : List Fr) (a' : Opr) (h : v_law_17 first' second' n' pairs_here' values' a') : RtOk (b_law_14 [j0, j1, j2, j3, cO (first'.map (qT2 (qL qI) qI)), cO (second'.map (qT2 (qL qI) qI)), cD (qI n'), cD (qL (qT2 qI qI) pairs_here'), j8, cO (values'.map qFr), cD (qOpr a'), j11, j12, j13]) (fun r x => x = .fro (qB r)) (q_law_17 first' second' n' pairs_here' values' a') :=
  RtOk.of (sq_nx (ρ' := [_, _, _, _, cO (first'.map (qT2 (qL qI) qI)), cO (second'.map (qT2 (qL qI) qI)), cD (qI n'), cD (qL (qT2 qI qI) pairs_here'), _, cO (values'.map qFr), cD (qOpr a'), cD (qOpr (q_law_operator second')), _, _]) (st_set (ev_bor (ρ' := [_, _, _, _, cO (first'.map (qT2 (qL qI) qI)), cD (qL (qT2 (qL qI) qI) second'), cD (qI n'), cD (qL (qT2 qI qI) pairs_here'), _, cO (values'.map qFr), cD (qOpr a'), _, _, _]) rfl rfl (ev_call (r_law_operator second' h.1) (av_cons ev_fro rfl av_nil)) (nl_fro (e := qOpr) _)) rfl rfl)) (r_law_18 first' second' n' pairs_here' values' a' (q_law_operator second') h.2)
theorem r_law_16 {j0 : Option Cel} {j1 : Option Cel} {j2 : Option Cel} {j3 : Option Cel} {j8 : Option Cel} {j10 : Option Cel} {j11 : Option Cel} {j12 : Option Cel} {j13 : Option Cel} (first' : List ((List Int) × Int)) (second' : List ((List Int) × Int)) (n' : Int) (pairs_here' : List (Int × Int)) (values' : List Fr) (h : v_law_16 first' second' n' pairs_here' values') : RtOk (b_law_15 [j0, j1, j2, j3, cO (first'.map (qT2 (qL qI) qI)), cO (second'.map (qT2 (qL qI) qI)), cD (qI n'), cD (qL (qT2 qI qI) pairs_here'), j8, cO (values'.map qFr), j10, j11, j12, j13]) (fun r x => x = .fro (qB r)) (q_law_16 first' second' n' pairs_here' values') :=
  RtOk.of (sq_nx (ρ' := [_, _, _, _, cO (first'.map (qT2 (qL qI) qI)), cO (second'.map (qT2 (qL qI) qI)), cD (qI n'), cD (qL (qT2 qI qI) pairs_here'), _, cO (values'.map qFr), cD (qOpr (q_law_operator first')), _, _, _]) (st_set (ev_bor (ρ' := [_, _, _, _, cD (qL (qT2 (qL qI) qI) first'), cO (second'.map (qT2 (qL qI) qI)), cD (qI n'), cD (qL (qT2 qI qI) pairs_here'), _, cO (values'.map qFr), _, _, _, _]) rfl rfl (ev_call (r_law_operator first' h.1) (av_cons ev_fro rfl av_nil)) (nl_fro (e := qOpr) _)) rfl rfl)) (r_law_17 first' second' n' pairs_here' values' (q_law_operator first') h.2)
theorem r_law_15 {j0 : Option Cel} {j1 : Option Cel} {j2 : Option Cel} {j3 : Option Cel} {j8 : Option Cel} {j9 : Option Cel} {j10 : Option Cel} {j11 : Option Cel} {j12 : Option Cel} {j13 : Option Cel} (first' : List ((List Int) × Int)) (second' : List ((List Int) × Int)) (n' : Int) (pairs_here' : List (Int × Int)) (h : v_law_15 first' second' n' pairs_here') : RtOk (b_law_16 [j0, j1, j2, j3, cO (first'.map (qT2 (qL qI) qI)), cO (second'.map (qT2 (qL qI) qI)), cD (qI n'), cO (pairs_here'.map (qT2 qI qI)), j8, j9, j10, j11, j12, j13]) (fun r x => x = .fro (qB r)) (q_law_15 first' second' n' pairs_here') :=
  RtOk.of (sq_nx (ρ' := [_, _, _, _, cO (first'.map (qT2 (qL qI) qI)), cO (second'.map (qT2 (qL qI) qI)), cD (qI n'), cD (qL (qT2 qI qI) pairs_here'), _, cO ((q_law_vector pairs_here').map qFr), _, _, _, _]) (fz_own (ρ' := [_, _, _, _, cO (first'.map (qT2 (qL qI) qI)), cO (second'.map (qT2 (qL qI) qI)), cD (qI n'), cD (qL (qT2 qI qI) pairs_here'), _, _, _, _, _, _]) rfl rfl (st_set (ev_call (r_law_vector pairs_here' h.1) (av_cons ev_fro rfl av_nil)) rfl rfl))) (r_law_16 first' second' n' pairs_here' (q_law_vector pairs_here') h.2)
theorem r_law_12 {j1 : Option Cel} {j2 : Option Cel} {j3 : Option Cel} {j8 : Option Cel} {j9 : Option Cel} {j10 : Option Cel} {j11 : Option Cel} {j12 : Option Cel} {j13 : Option Cel} (script' : List Int) (first' : List ((List Int) × Int)) (second' : List ((List Int) × Int)) (n' : Int) (pairs_here' : List (Int × Int)) (h : v_law_12 script' first' second' n' pairs_here') : RtOk (b_law_17 [cD (qL qI script'), j1, j2, j3, cO (first'.map (qT2 (qL qI) qI)), cO (second'.map (qT2 (qL qI) qI)), cD (qI n'), cO (pairs_here'.map (qT2 qI qI)), j8, j9, j10, j11, j12, j13]) (fun r x => x = .fro (qB r)) (q_law_12 script' first' second' n' pairs_here') :=
  sq_NR (E := (fun (s : (List (Int × Int))) w => ∃ (j0 : Option Cel) (j1 : Option Cel) (j2 : Option Cel) (j3 : Option Cel) (j8 : Option Cel) (j9 : Option Cel) (j10 : Option Cel) (j11 : Option Cel) (j12 : Option Cel) (j13 : Option Cel), w = [j0, j1, j2, j3, cO (first'.map (qT2 (qL qI) qI)), cO (second'.map (qT2 (qL qI) qI)), cD (qI n'), cO (s.map (qT2 qI qI)), j8, j9, j10, j11, j12, j13])) (q := q_law_14 script' first' second' n' pairs_here') (nx_if (tv_b (ev_e2 ev_fro ev_c rfl)) (fun hb7 => r_law_13 script' first' second' n' pairs_here' (h.1 hb7)) (fun hb7 => nx_next ⟨_, _, _, _, _, _, _, _, _, _, rfl⟩)) (fun w hw => by obtain ⟨_, _, _, _, _, _, _, _, _, _, rfl⟩ := hw; exact r_law_15 first' second' n' (q_law_14 script' first' second' n' pairs_here') h.2)
theorem r_law_11 {j1 : Option Cel} {j2 : Option Cel} {j3 : Option Cel} {j7 : Option Cel} {j8 : Option Cel} {j9 : Option Cel} {j10 : Option Cel} {j11 : Option Cel} {j12 : Option Cel} {j13 : Option Cel} (script' : List Int) (first' : List ((List Int) × Int)) (second' : List ((List Int) × Int)) (n' : Int) (h : v_law_11 script' first' second' n') : RtOk (b_law_18 [cD (qL qI script'), j1, j2, j3, cO (first'.map (qT2 (qL qI) qI)), cO (second'.map (qT2 (qL qI) qI)), cD (qI n'), j7, j8, j9, j10, j11, j12, j13]) (fun r x => x = .fro (qB r)) (q_law_11 script' first' second' n') :=
  RtOk.of (sq_nx (ρ' := [cD (qL qI script'), _, _, _, cO (first'.map (qT2 (qL qI) qI)), cO (second'.map (qT2 (qL qI) qI)), cD (qI n'), cO ((((rngT 0 n').map fun (x5 : Int) => ((0 : Int), (1 : Int))) ++ (q_law_pairs (q_law_cell script' (2 : Int)) (9 : Int))).map (qT2 qI qI)), _, _, _, _, _, _]) (st_set (ev_e2 (ev_lc (e := qI) (e' := qT2 qI qI) (F := fun (x5 : Int) => ((0 : Int), (1 : Int))) (xs := rngT 0 n') (iv_r1 ev_fro h.1) h.2.1 (fun x5 hx6 => ⟨[cD (qL qI script'), _, _, _, cO (first'.map (qT2 (qL qI) qI)), cO (second'.map (qT2 (qL qI) qI)), cD (qI n'), _, cD (qI x5), _, _, _, _, _], _, rfl, ev_tup (av_cons ev_c rfl (av_cons ev_c rfl av_nil)) (Nat.le_of_ble_eq_true rfl), rfl⟩)) (ev_call (r_law_pairs (q_law_cell script' (2 : Int)) (9 : Int) h.2.2.2.1) (av_cons (ev_call (r_law_cell script' (2 : Int) h.2.2.1) (av_cons ev_fro rfl (av_cons ev_c rfl av_nil))) rfl (av_cons ev_c rfl av_nil))) (g_cat (k := .own) (l := .own) (e := qT2 qI qI) (xs := ((rngT 0 n').map fun (x5 : Int) => ((0 : Int), (1 : Int)))) (ys := q_law_pairs (q_law_cell script' (2 : Int)) (9 : Int)) h.2.2.2.2.1)) rfl rfl)) (r_law_12 script' first' second' n' (((rngT 0 n').map fun (x5 : Int) => ((0 : Int), (1 : Int))) ++ (q_law_pairs (q_law_cell script' (2 : Int)) (9 : Int))) h.2.2.2.2.2)
theorem r_law_8 {j2 : Option Cel} {j3 : Option Cel} {j7 : Option Cel} {j8 : Option Cel} {j9 : Option Cel} {j10 : Option Cel} {j11 : Option Cel} {j12 : Option Cel} {j13 : Option Cel} (script' : List Int) (choices' : List Int) (first' : List ((List Int) × Int)) (second' : List ((List Int) × Int)) (n' : Int) (h : v_law_8 script' choices' first' second' n') : RtOk (b_law_19 [cD (qL qI script'), cO (choices'.map qI), j2, j3, cO (first'.map (qT2 (qL qI) qI)), cO (second'.map (qT2 (qL qI) qI)), cD (qI n'), j7, j8, j9, j10, j11, j12, j13]) (fun r x => x = .fro (qB r)) (q_law_8 script' choices' first' second' n') :=
  sq_NR (E := (fun (s : Int) w => ∃ (j1 : Option Cel) (j2 : Option Cel) (j3 : Option Cel) (j7 : Option Cel) (j8 : Option Cel) (j9 : Option Cel) (j10 : Option Cel) (j11 : Option Cel) (j12 : Option Cel) (j13 : Option Cel), w = [cD (qL qI script'), j1, j2, j3, cO (first'.map (qT2 (qL qI) qI)), cO (second'.map (qT2 (qL qI) qI)), cD (qI s), j7, j8, j9, j10, j11, j12, j13])) (q := q_law_10 script' choices' first' second' n') (nx_if (tv_b (ev_e2 (ev_e2 (ev_e1 (ev_e2 (ev_e2 ev_own ev_c (g_ix (k := .bor) (e := qI) h.1)) ev_c (g_div (by decide))) rfl) ev_c (g_mod (by decide))) ev_c g_eqI)) (fun hb4 => r_law_9 script' choices' first' second' n' (h.2.1 hb4)) (fun hb4 => nx_next ⟨_, _, _, _, _, _, _, _, _, _, rfl⟩)) (fun w hw => by obtain ⟨_, _, _, _, _, _, _, _, _, _, rfl⟩ := hw; exact r_law_11 script' first' second' (q_law_10 script' choices' first' second' n') h.2.2)
theorem r_law_7 {j2 : Option Cel} {j3 : Option Cel} {j6 : Option Cel} {j7 : Option Cel} {j8 : Option Cel} {j9 : Option Cel} {j10 : Option Cel} {j11 : Option Cel} {j12 : Option Cel} {j13 : Option Cel} (script' : List Int) (choices' : List Int) (first' : List ((List Int) × Int)) (second' : List ((List Int) × Int)) (h : v_law_7 script' choices' first' second') : RtOk (b_law_20 [cD (qL qI script'), cO (choices'.map qI), j2, j3, cO (first'.map (qT2 (qL qI) qI)), cO (second'.map (qT2 (qL qI) qI)), j6, j7, j8, j9, j10, j11, j12, j13]) (fun r x => x = .fro (qB r)) (q_law_7 script' choices' first' second') :=
  RtOk.of (sq_nx (ρ' := [cD (qL qI script'), cO (choices'.map qI), _, _, cO (first'.map (qT2 (qL qI) qI)), cO (second'.map (qT2 (qL qI) qI)), cD (qI (Int.fmod (gt choices' (2 : Int)) (13 : Int))), _, _, _, _, _, _, _]) (st_set (ev_e2 (ev_e1 (ev_e2 ev_own ev_c (g_ix (k := .bor) (e := qI) h.1)) rfl) ev_c (g_mod (by decide))) rfl rfl)) (r_law_8 script' choices' first' second' (Int.fmod (gt choices' (2 : Int)) (13 : Int)) h.2)
theorem r_law_6 {j3 : Option Cel} {j5 : Option Cel} {j6 : Option Cel} {j7 : Option Cel} {j8 : Option Cel} {j9 : Option Cel} {j10 : Option Cel} {j11 : Option Cel} {j12 : Option Cel} {j13 : Option Cel} (script' : List Int) (choices' : List Int) (orders' : List Int) (first' : List ((List Int) × Int)) (h : v_law_6 script' choices' orders' first') : RtOk (b_law_21 [cD (qL qI script'), cO (choices'.map qI), cO (orders'.map qI), j3, cO (first'.map (qT2 (qL qI) qI)), j5, j6, j7, j8, j9, j10, j11, j12, j13]) (fun r x => x = .fro (qB r)) (q_law_6 script' choices' orders' first') :=
  RtOk.of (sq_nx (ρ' := [cD (qL qI script'), cO (choices'.map qI), cO (orders'.map qI), _, cO (first'.map (qT2 (qL qI) qI)), cO ((q_law_cut (q_law_drawn script' (8 : Int) (gt orders' (1 : Int)) (2 : Int))).map (qT2 (qL qI) qI)), _, _, _, _, _, _, _, _]) (st_set (ev_call (r_law_cut (q_law_drawn script' (8 : Int) (gt orders' (1 : Int)) (2 : Int)) h.2.2.1) (av_cons (ev_call (r_law_drawn script' (8 : Int) (gt orders' (1 : Int)) (2 : Int) h.2.1) (av_cons ev_fro rfl (av_cons ev_c rfl (av_cons (ev_e2 ev_own ev_c (g_ix (k := .bor) (e := qI) h.1)) rfl (av_cons ev_c rfl av_nil))))) rfl av_nil)) rfl rfl)) (r_law_7 script' choices' first' (q_law_cut (q_law_drawn script' (8 : Int) (gt orders' (1 : Int)) (2 : Int))) h.2.2.2)
theorem r_law_5 {j3 : Option Cel} {j4 : Option Cel} {j5 : Option Cel} {j6 : Option Cel} {j7 : Option Cel} {j8 : Option Cel} {j9 : Option Cel} {j10 : Option Cel} {j11 : Option Cel} {j12 : Option Cel} {j13 : Option Cel} (script' : List Int) (choices' : List Int) (orders' : List Int) (h : v_law_5 script' choices' orders') : RtOk (b_law_22 [cD (qL qI script'), cO (choices'.map qI), cO (orders'.map qI), j3, j4, j5, j6, j7, j8, j9, j10, j11, j12, j13]) (fun r x => x = .fro (qB r)) (q_law_5 script' choices' orders') :=
  RtOk.of (sq_nx (ρ' := [cD (qL qI script'), cO (choices'.map qI), cO (orders'.map qI), _, cO ((q_law_cut (q_law_drawn script' (4 : Int) (gt orders' (0 : Int)) (2 : Int))).map (qT2 (qL qI) qI)), _, _, _, _, _, _, _, _, _]) (st_set (ev_call (r_law_cut (q_law_drawn script' (4 : Int) (gt orders' (0 : Int)) (2 : Int)) h.2.2.1) (av_cons (ev_call (r_law_drawn script' (4 : Int) (gt orders' (0 : Int)) (2 : Int) h.2.1) (av_cons ev_fro rfl (av_cons ev_c rfl (av_cons (ev_e2 ev_own ev_c (g_ix (k := .bor) (e := qI) h.1)) rfl (av_cons ev_c rfl av_nil))))) rfl av_nil)) rfl rfl)) (r_law_6 script' choices' orders' (q_law_cut (q_law_drawn script' (4 : Int) (gt orders' (0 : Int)) (2 : Int))) h.2.2.2)
theorem r_law_2 {j3 : Option Cel} {j4 : Option Cel} {j5 : Option Cel} {j6 : Option Cel} {j7 : Option Cel} {j8 : Option Cel} {j9 : Option Cel} {j10 : Option Cel} {j11 : Option Cel} {j12 : Option Cel} {j13 : Option Cel} (script' : List Int) (choices' : List Int) (orders' : List Int) (h : v_law_2 script' choices' orders') : RtOk (b_law_23 [cD (qL qI script'), cO (choices'.map qI), cO (orders'.map qI), j3, j4, j5, j6, j7, j8, j9, j10, j11, j12, j13]) (fun r x => x = .fro (qB r)) (q_law_2 script' choices' orders') :=
  sq_NR (E := (fun (s : (List Int)) w => ∃ (j3 : Option Cel) (j4 : Option Cel) (j5 : Option Cel) (j6 : Option Cel) (j7 : Option Cel) (j8 : Option Cel) (j9 : Option Cel) (j10 : Option Cel) (j11 : Option Cel) (j12 : Option Cel) (j13 : Option Cel), w = [cD (qL qI script'), cO (choices'.map qI), cO (s.map qI), j3, j4, j5, j6, j7, j8, j9, j10, j11, j12, j13])) (q := q_law_4 script' choices' orders') (nx_if (tv_b (ev_e2 (ev_e2 (ev_e1 (ev_e2 (ev_e2 ev_own ev_c (g_ix (k := .bor) (e := qI) h.1)) ev_c (g_div (by decide))) rfl) ev_c (g_mod (by decide))) ev_c g_eqI)) (fun hb3 => r_law_3 script' choices' orders' (h.2.1 hb3)) (fun hb3 => nx_next ⟨_, _, _, _, _, _, _, _, _, _, _, rfl⟩)) (fun w hw => by obtain ⟨_, _, _, _, _, _, _, _, _, _, _, rfl⟩ := hw; exact r_law_5 script' choices' (q_law_4 script' choices' orders') h.2.2)
theorem r_law_1 {j2 : Option Cel} {j3 : Option Cel} {j4 : Option Cel} {j5 : Option Cel} {j6 : Option Cel} {j7 : Option Cel} {j8 : Option Cel} {j9 : Option Cel} {j10 : Option Cel} {j11 : Option Cel} {j12 : Option Cel} {j13 : Option Cel} (script' : List Int) (choices' : List Int) (h : v_law_1 script' choices') : RtOk (b_law_24 [cD (qL qI script'), cO (choices'.map qI), j2, j3, j4, j5, j6, j7, j8, j9, j10, j11, j12, j13]) (fun r x => x = .fro (qB r)) (q_law_1 script' choices') :=
  RtOk.of (sq_nx (ρ' := [cD (qL qI script'), cO (choices'.map qI), cO (((cutT choices' none (some (2 : Int))).map fun (x1 : Int) => ((Int.fmod x1 (4 : Int)) - (1 : Int))).map qI), _, _, _, _, _, _, _, _, _, _, _]) (st_set (ev_lc (e := qI) (e' := qI) (F := fun (x1 : Int) => ((Int.fmod x1 (4 : Int)) - (1 : Int))) (xs := (cutT choices' none (some (2 : Int)))) (iv_k (k := .own) (ev_sl (k := .bor) ev_own ov_none (ov_some ev_c)) (by simp)) h.1 (fun x1 hx2 => ⟨[cD (qL qI script'), cO (choices'.map qI), _, cD (qI x1), _, _, _, _, _, _, _, _, _, _], _, rfl, ev_e2 (ev_e2 (ev_e1 ev_fro rfl) ev_c (g_mod (by decide))) ev_c rfl, rfl⟩)) rfl rfl)) (r_law_2 script' choices' ((cutT choices' none (some (2 : Int))).map fun (x1 : Int) => ((Int.fmod x1 (4 : Int)) - (1 : Int))) h.2)
theorem r_law_0 {j1 : Option Cel} {j2 : Option Cel} {j3 : Option Cel} {j4 : Option Cel} {j5 : Option Cel} {j6 : Option Cel} {j7 : Option Cel} {j8 : Option Cel} {j9 : Option Cel} {j10 : Option Cel} {j11 : Option Cel} {j12 : Option Cel} {j13 : Option Cel} (script' : List Int) (h : v_law_0 script') : RtOk (b_law_25 [cD (qL qI script'), j1, j2, j3, j4, j5, j6, j7, j8, j9, j10, j11, j12, j13]) (fun r x => x = .fro (qB r)) (q_law_0 script') :=
  RtOk.of (sq_nx (ρ' := [cD (qL qI script'), cO ((q_law_digits (q_law_cell script' (0 : Int)) (1608 : Int) (3 : Int)).map qI), _, _, _, _, _, _, _, _, _, _, _, _]) (st_set (ev_call (r_law_digits (q_law_cell script' (0 : Int)) (1608 : Int) (3 : Int) h.2.1) (av_cons (ev_call (r_law_cell script' (0 : Int) h.1) (av_cons ev_fro rfl (av_cons ev_c rfl av_nil))) rfl (av_cons ev_c rfl (av_cons ev_c rfl av_nil)))) rfl rfl)) (r_law_1 script' (q_law_digits (q_law_cell script' (0 : Int)) (1608 : Int) (3 : Int)) h.2.2)
theorem r_law (script' : List Int) (h : v_law script') : f_law [qL qI script'] = some (.ok (.fro (qB (q_law script')))) :=
  fn_F (e := qB) (r_law_0 script' h)
end G
set_option maxHeartbeats 2000000
namespace G
open PySem PySem.Spec L2 Pd
theorem draw0_spec {cell : Int} {B most : Nat} (hc : Sm cell B) (hB : B ≤ 30000000) (hm : most ≤ 100) : v_law_draw cell (most : Int) ∧ PtS (q_law_draw cell (most : Int)) (most + 1) 4 ∧ Tr (q_law_draw cell (most : Int)).1 := by
  obtain ⟨v0, d0⟩ := digits_spec (lim := 228) (count := most + 3) hc hB (by decide) (by omega)
  rw [show ((most + 3 : Nat) : Int) = (most : Int) + 3 by omega] at v0 d0
  have E0 : q_law_draw cell (most : Int) = q_law_draw_1 (most : Int) (q_law_digits cell 228 ((most : Int) + 3)) := rfl
  have V0 : v_law_draw cell (most : Int) = (v_law_digits cell 228 ((most : Int) + 3) ∧ v_law_draw_1 (most : Int) (q_law_digits cell 228 ((most : Int) + 3))) := rfl
  rw [E0, V0]
  generalize q_law_digits cell 228 ((most : Int) + 3) = ds at *
  obtain ⟨i0, a0, b0⟩ := d0.at (i := 0) (by omega) (by omega)
  obtain ⟨i1, a1, b1⟩ := d0.at (i := 1) (by omega) (by omega)
  have f0 := fmod_pos (i := gt ds (0 : Int)) (j := (most : Int) + 2) (by omega)
  have f3 := fmod_pos (i := (gt ds (1 : Int)).fdiv 3) (j := 3) (by decide)
  obtain ⟨r, er⟩ := Int.eq_ofNat_of_zero_le f0.1
  have hl := d0.len
  have ecut : cutT ds (some (2 : Int)) (some ((2 : Int) + (r : Int))) = (ds.drop 2).take (2 + r - 2) := by
    rw [show (2 : Int) + (r : Int) = ((2 + r : Nat) : Int) by omega]
    exact cut_mid (n := 2) (m := 2 + r) (by omega) (by omega)
  have lp := forV_inv0 (V := fun (s3 : (List Int)) (x4 : Int) => v_law_draw_4 ds s3 x4) (f := fun (s3 : (List Int)) (x4 : Int) => q_law_draw_4 ds s3 x4) (xs := (ds.drop 2).take (2 + r - 2)) (s := ([] : List Int))
    (fun i xs => xs.length = i ∧ ∀ x ∈ xs, -9 ≤ x ∧ x ≤ 9) ⟨rfl, fun x hx => (nomatch hx)⟩ fun i x xs hx ⟨h1, h2⟩ => by
      have hi : i < ((ds.drop 2).take (2 + r - 2)).length := (List.getElem?_eq_some_iff.mp hx).1
      rw [List.length_take] at hi
      have hln : xs.length < LINE := line_lt (by omega)
      have fx := fmod_pos (i := x) (j := 19) (by decide)
      show (inR ds 1 ∧ (_ = true → xs.length < LINE) ∧ (_ = false → xs.length < LINE)) ∧ (q_law_draw_4 ds xs x).length = _ ∧ ∀ y ∈ q_law_draw_4 ds xs x, -9 ≤ y ∧ y ≤ 9
      refine ⟨⟨i1, fun _ => hln, fun _ => hln⟩, ?_⟩
      unfold q_law_draw_4 q_law_draw_5 q_law_draw_6
      split
      · refine ⟨by simp [h1], fun y hy => ?_⟩
        rcases List.mem_append.mp hy with q | q
        · exact h2 y q
        · have : y = 0 := by simpa using q
          omega
      · refine ⟨by simp [h1], fun y hy => ?_⟩
        rcases List.mem_append.mp hy with q | q
        · exact h2 y q
        · have : y = Int.fmod x 19 - 9 := by simpa using q
          omega
  obtain ⟨v3, h1, h2⟩ := lp
  have hlen : ((ds.drop 2).take (2 + r - 2)).length ≤ most + 1 := by rw [List.length_take]; omega
  unfold v_law_draw_1 q_law_draw_1 v_law_draw_2 q_law_draw_2 v_law_draw_3 q_law_draw_3 v_law_draw_8 q_law_draw_8 q_law_draw_7
  rw [er, ecut]
  generalize ((ds.drop 2).take (2 + r - 2)).foldl (fun (s3 : (List Int)) (x4 : Int) => q_law_draw_4 ds s3 x4) [] = cs at *
  obtain ⟨vt, et⟩ := ltr_spec (xs := cs) (by omega)
  have sm : ∀ y : Int, -9 ≤ y → y ≤ 9 → Sm y 4 := fun y h1 h2 => Sm.nat (by omega) (by omega) (by decide)
  have co9 : ∀ k, Sm (co cs k) 4 := fun k => by
    by_cases q : k < cs.length
    · have := h2 _ (List.mem_of_getElem? (co_lt q))
      exact sm _ this.1 this.2
    · rw [co_ge (by omega)]; exact Sm.zero (by decide)
  refine ⟨⟨v0, i0, by omega, v3, vt, i1⟩, ⟨?_, ?_, ?_⟩, ?_⟩
  · show LS (q_law_trim cs) (most + 1) 4
    rw [et]
    exact (trim_ls (n := most + 1) ⟨by omega, co9⟩)
  · show Sm (Int.fmod (Int.fdiv (gt ds (1 : Int)) 3) 3 + 1) 4
    exact Sm.nat (by omega) (by omega) (by decide)
  · show Int.fmod (Int.fdiv (gt ds (1 : Int)) 3) 3 + 1 ≠ 0
    omega
  · show Tr (q_law_trim cs)
    rw [et]
    exact trim_tr cs
theorem at_fold (k : Int) : ∀ (xs : List Int), (xs.reverse.foldl (fun (s1 : Int) (x2 : Int) => q_law_at_x2_2 k s1 x2) 0) = hz k xs
  | [] => rfl
  | a :: xs => by
    rw [List.reverse_cons, List.foldl_append, at_fold k xs]
    show hz k xs * k + a = a + k * hz k xs
    rw [Int.mul_comm]; omega
theorem at2_spec {xs : List Int} {k : Int} {n b s : Nat} (hx : LS xs n b) (hk : Sm k s) (hn : n ≤ 1000) (hb : b ≤ 10000) (hs : s ≤ 1000) : v_law_at_x2 xs k ∧ q_law_at_x2 xs k = hz k xs := by
  have hl := hx.len
  have lp := forV_inv0 (V := fun (s1 : Int) (x2 : Int) => v_law_at_x2_2 k s1 x2) (f := fun (s1 : Int) (x2 : Int) => q_law_at_x2_2 k s1 x2) (xs := xs.reverse) (s := 0)
    (fun i t => Sm t (b + i * (s + 1))) (Sm.zero (by have := (hx.c 0).pos; omega)) fun i x t hi ht => by
      obtain ⟨h1, h2⟩ := rev_at hi
      have m1 : (i + 1) * (s + 1) = i * (s + 1) + (s + 1) := Nat.succ_mul _ _
      have m2 : i * (s + 1) ≤ 1000 * 1001 := Nat.mul_le_mul (by omega) (by omega)
      have sx := hx.mem (List.mem_of_getElem? h2)
      refine ⟨mulOk_sm ht hk (by omega), ?_⟩
      show Sm (t * k + x) _
      exact (ht.mulUp hk (Nat.le_refl _)).addUp2 sx (by omega) (by omega)
  exact ⟨lp.1, at_fold k xs⟩
section
variable {ps qs : List Part} {vs : List (Int × Int)}
theorem applied_spec {c : Nat} {N : Nat} (hp : PL ps 4 3 4) (hv : ∀ v ∈ vs, PrS v c) (hc : c ≤ 10000) (hN : N ≤ 250) (hl : N + ps.length ≤ vs.length) : v_law_applied ps vs (N : Int) ∧ PrS (q_law_applied ps vs (N : Int)) (1 + 4 * (c + 40)) ∧ prv (q_law_applied ps vs (N : Int)) = apl (pcv_ ps) (fun j => prv (gt vs ((N + j : Nat) : Int))) (N : Int) ps.length := by
  have hpl := hp.len
  have sN : Sm (N : Int) 8 := Sm.nat (by omega) (by omega) (by decide)
  have lp := forV_inv0 (V := fun (s1 : Int × Int) (x2 : Int) => v_law_applied_3 ps vs (N : Int) s1.1 s1.2 x2) (f := fun (s1 : Int × Int) (x2 : Int) => q_law_applied_3 ps vs (N : Int) s1.1 s1.2 x2) (xs := rngT 0 (ps.length : Int)) (s := ((0 : Int), (1 : Int)))
    (fun i s => PrS s (1 + i * (c + 40)) ∧ prv s = apl (pcv_ ps) (fun j => prv (gt vs ((N + j : Nat) : Int))) (N : Int) i) ⟨⟨Sm.zero (by omega), one_sm (by omega), by decide⟩, by
      show ((0 : Int) : Rat) * _ = 0
      rw [show ((0 : Int) : Rat) = 0 from rfl]; grind⟩ fun i z s hzz ⟨h1, h2⟩ => by
      obtain ⟨hi, ez⟩ := rngT0_get hzz
      subst ez
      obtain ⟨t, d⟩ := s
      obtain ⟨g1, g2⟩ := gt_memG (xs := ps) hi
      obtain ⟨a1, a2⟩ := hp.p _ g1
      have ei : (N : Int) + (i : Int) = ((N + i : Nat) : Int) := by omega
      obtain ⟨w1, w2⟩ := gt_memG (xs := vs) (k := N + i) (by omega)
      have hw := hv _ w1
      have m1 : (i + 1) * (c + 40) = i * (c + 40) + (c + 40) := Nat.succ_mul _ _
      have m2 : i * (c + 40) ≤ 4 * 10040 := Nat.mul_le_mul (by omega) (by omega)
      obtain ⟨av, ae⟩ := at2_spec a1.ls sN (by decide) (by decide) (by decide)
      have sh := (hz_sm sN (xs := (gt ps (i : Int)).1) (b := 4) a1.ls.c).up (show _ ≤ 31 by have : (gt ps (i : Int)).1.length * (8 + 1) ≤ 3 * 9 := Nat.mul_le_mul_right _ a1.ls.len; omega)
      have s1 := sh.mulUp hw.n (Nat.le_refl _)
      have s2 := a1.d.mulUp hw.d (Nat.le_refl _)
      have s3 := h1.n.mulUp s2 (Nat.le_refl _)
      have s4 := s1.mulUp h1.d (Nat.le_refl _)
      have s5 := h1.d.mulUp s2 (Nat.le_refl _)
      unfold v_law_applied_3 q_law_applied_3 v_law_applied_4 q_law_applied_4 v_law_applied_5 q_law_applied_5 v_law_applied_6 q_law_applied_6
      rw [ei, ae]
      refine ⟨⟨inR_nat hi, av, inR_nat (by omega), mulOk_sm sh hw.n (by omega), inR_nat hi, inR_nat (by omega), mulOk_sm a1.d hw.d (by omega), mulOk_sm h1.n s2 (by omega), mulOk_sm s1 h1.d (by omega), mulOk_sm h1.d s2 (by omega)⟩, ⟨s3.addUp2 s4 (by omega) (by omega), s5.up (by omega), Int.mul_ne_zero h1.ne (Int.mul_ne_zero a1.ne hw.ne)⟩, ?_⟩
      show _ = apl (pcv_ ps) _ (N : Int) i + pcv_ ps i (N : Int) * prv (gt vs ((N + i : Nat) : Int))
      rw [← h2]
      have ep : pcv_ ps i (N : Int) = (hz (N : Int) (gt ps (i : Int)).1 : Rat) * ((gt ps (i : Int)).2 : Rat)⁻¹ := by
        unfold pcv_
        rw [ptv_some g2]
        unfold pt
        rw [pev_mul (Pl.c _) (Pl.lv _), pev_c, pev_lv]; grind
      rw [ep]
      unfold prv
      show ((t * ((gt ps (i : Int)).2 * (gt vs ((N + i : Nat) : Int)).2) + hz (N : Int) (gt ps (i : Int)).1 * (gt vs ((N + i : Nat) : Int)).1 * d : Int) : Rat) * ((d * ((gt ps (i : Int)).2 * (gt vs ((N + i : Nat) : Int)).2) : Int) : Rat)⁻¹ = _
      rw [Rat.intCast_add, Rat.intCast_mul t, Rat.intCast_mul (hz (N : Int) (gt ps (i : Int)).1 * (gt vs ((N + i : Nat) : Int)).1), Rat.intCast_mul (hz (N : Int) (gt ps (i : Int)).1), Rat.intCast_mul d, Rat.intCast_mul (gt ps (i : Int)).2]
      have n1 := ic_ne h1.ne
      have n2 := ic_ne a1.ne
      have n3 := ic_ne hw.ne
      dsimp only at n1
      generalize (d : Rat) = u1 at *
      generalize ((gt ps (i : Int)).2 : Rat) = u2 at *
      generalize ((gt vs ((N + i : Nat) : Int)).2 : Rat) = u3 at *
      generalize ((gt vs ((N + i : Nat) : Int)).1 : Rat) = u4 at *
      generalize (hz (N : Int) (gt ps (i : Int)).1 : Rat) = u5 at *
      generalize (t : Rat) = u6 at *
      have n12 : u2 * u3 ≠ 0 := by grind
      have n123 : u1 * (u2 * u3) ≠ 0 := by grind
      grind
  rw [rngT0_length] at lp
  obtain ⟨v, h1, h2⟩ := lp
  have m3 : ps.length * (c + 40) ≤ 4 * (c + 40) := Nat.mul_le_mul_right _ hpl
  exact ⟨⟨rOk_nat (by omega), v⟩, h1.up (by omega), h2⟩
theorem apl_add (a b : Nat → Int → Rat) (u : Nat → Rat) (x : Int) : ∀ n, apl (fun i y => a i y + b i y) u x n = apl a u x n + apl b u x n
  | 0 => by show (0 : Rat) = 0 + 0; grind
  | n + 1 => by
    show apl (fun i y => a i y + b i y) u x n + (a n x + b n x) * u n = (apl a u x n + a n x * u n) + (apl b u x n + b n x * u n)
    rw [apl_add a b u x n]; grind
theorem apl_more {a : Nat → Int → Rat} {u : Nat → Rat} {x : Int} {L : Nat} (h : ∀ j, L ≤ j → a j x = 0) : ∀ d, apl a u x (L + d) = apl a u x L
  | 0 => rfl
  | d + 1 => by
    show apl a u x (L + d) + a (L + d) x * u (L + d) = _
    rw [apl_more h d, h (L + d) (by omega)]; grind
theorem apl_ext {a b : Nat → Int → Rat} {u w : Nat → Rat} {x : Int} : ∀ n, (∀ i, i < n → a i x = b i x ∧ u i = w i) → apl a u x n = apl b w x n
  | 0, _ => rfl
  | n + 1, h => by
    show apl a u x n + a n x * u n = apl b w x n + b n x * w n
    rw [apl_ext n fun i hi => h i (by omega), (h n (by omega)).1, (h n (by omega)).2]
theorem apl_off (b : Nat → Int → Rat) (u : Nat → Rat) (x y : Int) (i : Nat) (c : Rat) : ∀ n, apl (fun I _ => if i ≤ I then c * b (I - i) y else 0) u x (i + n) = c * apl b (fun t => u (i + t)) y n
  | 0 => by
    have : ∀ k, k ≤ i → apl (fun I _ => if i ≤ I then c * b (I - i) y else 0) u x k = 0 := by
      intro k
      induction k with
      | zero => intro _; rfl
      | succ k ih =>
        intro hk
        show apl _ u x k + (if i ≤ k then c * b (k - i) y else 0) * u k = 0
        rw [ih (by omega), if_neg (by omega)]; grind
    rw [this (i + 0) (by omega)]
    show (0 : Rat) = c * 0
    grind
  | n + 1 => by
    show apl _ u x (i + n) + (if i ≤ i + n then c * b (i + n - i) y else 0) * u (i + n) = c * (apl b (fun t => u (i + t)) y n + b n y * u (i + n))
    rw [apl_off b u x y i c n, if_pos (by omega), show i + n - i = n by omega]; grind
theorem tws_apl (a b : Nat → Int → Rat) (u : Nat → Rat) (x : Int) {Lb : Nat} (hb : ∀ j y, Lb ≤ j → b j y = 0) : ∀ (La M : Nat), La + Lb ≤ M → apl (fun I y => tws a b La I y) u x M = apl a (fun i => apl b (fun t => u (i + t)) (x + (i : Int)) Lb) x La
  | 0, M, _ => by
    have : ∀ n, apl (fun I y => tws a b 0 I y) u x n = 0 := by
      intro n
      induction n with
      | zero => rfl
      | succ n ih =>
        show apl _ u x n + (0 : Rat) * u n = 0
        rw [ih]; grind
    exact this M
  | La + 1, M, h => by
    have e1q : apl (fun I y => tws a b (La + 1) I y) u x M = apl (fun I y => tws a b La I y + (fun I _ => if La ≤ I then a La x * b (I - La) (x + (La : Int)) else 0) I y) u x M := apl_ext M fun i _ => ⟨rfl, rfl⟩
    rw [e1q, apl_add, tws_apl a b u x hb La M (by omega)]
    obtain ⟨d, hd⟩ : ∃ d, M = La + (Lb + d) := ⟨M - La - Lb, by omega⟩
    rw [hd, apl_off, apl_more fun j hj => hb j _ hj]
    rfl
theorem pairs_spec {cell : Int} {B k : Nat} (hc : Sm cell B) (hB : B ≤ 30000000) (hk : k ≤ 1000) : v_law_pairs cell (k : Int) ∧ (∀ p ∈ q_law_pairs cell (k : Int), PrS p 4) ∧ (q_law_pairs cell (k : Int)).length = k := by
  obtain ⟨v, d⟩ := digits_spec (lim := 76) (count := k) hc hB (by decide) hk
  have hl := d.len
  refine ⟨⟨v, line_le (by omega)⟩, fun p hp => ?_, ?_⟩
  · obtain ⟨x, hx, rfl⟩ := List.mem_map.mp hp
    have f1 := fmod_pos (i := x) (j := 19) (by decide)
    have f2 := fmod_pos (i := Int.fdiv x 19) (j := 4) (by decide)
    exact ⟨Sm.nat (by show _ < Int.fmod x 19 - 9; omega) (by show Int.fmod x 19 - 9 < _; omega) (by decide), Sm.nat (by show _ < Int.fmod (Int.fdiv x 19) 4 + 1; omega) (by show Int.fmod (Int.fdiv x 19) 4 + 1 < _; omega) (by decide), by show Int.fmod (Int.fdiv x 19) 4 + 1 ≠ 0; omega⟩
  · show ((q_law_digits cell 76 (k : Int)).map _).length = k
    rw [List.length_map]; exact hl
theorem drawn_spec {script : List Int} {B at_ : Nat} {o : Int} (hb : ∀ z ∈ script, z.natAbs < 2 ^ B) (hB1 : 40 ≤ B) (hB2 : B ≤ 20000000) (h0 : -1 ≤ o) (h3 : o ≤ 3) (ha : at_ ≤ 100) : v_law_drawn script (at_ : Int) o 2 ∧ PL (q_law_drawn script (at_ : Int) o 2) 4 3 4 := by
  obtain ⟨k, hk⟩ : ∃ k : Nat, o + 1 = (k : Int) := ⟨(o + 1).toNat, by omega⟩
  have el : ∀ x1 ∈ rngT 0 (k : Int), v_law_cell script ((at_ : Int) + x1) ∧ v_law_draw (q_law_cell script ((at_ : Int) + x1)) 2 ∧ PtS (q_law_draw (q_law_cell script ((at_ : Int) + x1)) 2) 3 4 ∧ Tr (q_law_draw (q_law_cell script ((at_ : Int) + x1)) 2).1 := fun x1 hx => by
    have := rngT_mem.mp hx
    obtain ⟨j, rfl⟩ := Int.eq_ofNat_of_zero_le this.1
    obtain ⟨cv, cs⟩ := cell_spec hb hB1 hB2 (at_ + j) (by omega)
    rw [show ((at_ + j : Nat) : Int) = (at_ : Int) + (j : Int) by omega] at cv cs
    obtain ⟨dv, dp, dt⟩ := draw0_spec (most := 2) cs (by omega) (by decide)
    exact ⟨cv, dv, dp, dt⟩
  have lk : ((rngT 0 (k : Int)).map fun (x1 : Int) => q_law_draw (q_law_cell script ((at_ : Int) + x1)) 2).length = k := by rw [List.length_map, rngT0_length]
  have pl : PL ((rngT 0 (k : Int)).map fun (x1 : Int) => q_law_draw (q_law_cell script ((at_ : Int) + x1)) 2) 4 3 4 := ⟨by omega, fun p hp => by
    obtain ⟨x, hx, rfl⟩ := List.mem_map.mp hp
    exact ⟨(el x hx).2.2.1, (el x hx).2.2.2⟩⟩
  unfold v_law_drawn q_law_drawn v_law_drawn_0 q_law_drawn_0 v_law_drawn_1 q_law_drawn_1 q_law_drawn_4 q_law_drawn_3 v_law_drawn_2 q_law_drawn_2
  rw [hk]
  generalize hP : ((rngT 0 (k : Int)).map fun (x1 : Int) => q_law_draw (q_law_cell script ((at_ : Int) + x1)) 2) = P at *
  have base : rOk (k : Int) = true ∧ (∀ x1 ∈ rngT 0 (k : Int), v_law_cell script ((at_ : Int) + x1) ∧ v_law_draw (q_law_cell script ((at_ : Int) + x1)) 2) ∧ (rngT 0 (k : Int)).length ≤ LINE := ⟨rOk_nat (by omega), fun x hx => ⟨(el x hx).1, (el x hx).2.1⟩, line_le (by rw [rngT0_length]; omega)⟩
  have irk : 0 < k → inR P o := fun h => by
    obtain ⟨j, hj⟩ : ∃ j : Nat, o = (j : Int) := ⟨o.toNat, by omega⟩
    rw [hj]; exact inR_nat (by omega)
  refine ⟨⟨base.1, base.2.1, base.2.2, fun w => irk (by have := of_decide_eq_true w; omega), fun w => irk (by
    rw [Bool.and_eq_true] at w
    have := of_decide_eq_true w.1; omega)⟩, ?_⟩
  split
  · refine ⟨by rw [setT_len]; exact pl.len, fun p hp => ?_⟩
    rename_i w
    rw [Bool.and_eq_true] at w
    have k0 : 0 < k := by have := of_decide_eq_true w.1; omega
    obtain ⟨j, hj⟩ : ∃ j : Nat, o = (j : Int) := ⟨o.toNat, by omega⟩
    rw [hj, setT_nat (by omega)] at hp
    rcases List.mem_or_eq_of_mem_set hp with q | q
    · exact pl.p p q
    · subst q
      refine ⟨⟨⟨by show 1 ≤ 3; decide, fun k => ?_⟩, one_sm (by decide), by decide⟩, fun _ => by show (1 : Int) ≠ 0; decide⟩
      match k with
      | 0 => exact one_sm (by decide)
      | k + 1 => exact Sm.zero (by decide)
  · exact pl
theorem rd_spec {Q : Opr} {W : Int} {n e N M m c : Nat} (h : OPV Q N n W e) (hp : PL ps M m c) (hn : n ≤ 100000) (hm : m ≤ 100000) (he : e ≤ 10000000) (hc : c ≤ 10000000) (hM : M ≤ 100000) (hN : N ≤ 100000) (hl : Q.coefs.length = ps.length) (hv : ∀ i, pr Q.coefs i = ptv ps i) : v_law_read_operator Q ∧ v_law_same (q_law_read_operator Q) ps ∧ q_law_same (q_law_read_operator Q) ps = true := by
  have lQ : Q.coefs.length ≤ N := h.rv.len
  obtain ⟨r1, r2, r3, r4⟩ := readop_spec h (by omega) (by omega)
  obtain ⟨s1, s2⟩ := same_spec h hp hn hm he hc hM hl hv
  have lm : (Q.coefs.map fun p => (some (p.coefs, p.den) : Option Part)).length = Q.coefs.length := List.length_map ..
  have hno : (decide ((none : Option ((List Int) × Int)) ∈ (Q.coefs.map fun p => (some (p.coefs, p.den) : Option Part)))) = false := decide_eq_false fun w => by
    obtain ⟨p, _, e⟩ := List.mem_map.mp w
    cases e
  have hd : (!decide (((q_law_cut_x2 (Q.coefs.map fun p => (some (p.coefs, p.den) : Option Part))).length : Int) = ((Q.coefs.map fun p => (some (p.coefs, p.den) : Option Part)).length : Int))) = false := by
    rw [decide_eq_true (by rw [r4, lm])]; rfl
  have E : q_law_read_operator Q = some (Q.coefs.map fun p => some (p.coefs, p.den)) := by
    show q_law_read_operator_3 (Q.coefs.map fun (x3 : Po) => q_law_read x3) = _
    rw [r2]
    unfold q_law_read_operator_3
    rw [hno, hd]; rfl
  refine ⟨fun _ => ⟨r1, line_le (by omega), ?_⟩, by rw [E]; exact s1, by rw [E]; exact s2⟩
  show v_law_read_operator_3 (Q.coefs.map fun (x3 : Po) => q_law_read x3)
  rw [r2]
  exact fun _ => r3
theorem main_ok {n : Nat} (hp : PL ps 4 3 4) (hq : PL qs 4 3 4) (cp : Cut ps) (cq : Cut qs) (hv : ∀ v ∈ vs, PrS v 4) (hl : vs.length = n + 9) (hn : n ≤ 200) : v_law_15 ps qs (n : Int) vs ∧ q_law_15 ps qs (n : Int) vs = true := by
  have lp := hp.len
  have lq := hq.len
  obtain ⟨vv, vf, vl, vval⟩ := vector_spec hv (by omega)
  obtain ⟨ov1, ⟨W1, o1⟩, c1, l1⟩ := lop_spec hp (by decide) (by decide) (by decide)
  obtain ⟨ov2, ⟨W2, o2⟩, c2, l2⟩ := lop_spec hq (by decide) (by decide) (by decide)
  have l1 := l1 cp
  have l2 := l2 cq
  generalize hA : q_law_operator ps = A at *
  generalize hB : q_law_operator qs = B at *
  generalize hVec : q_law_vector vs = fs at *
  have sn : Sm (n : Int) 8 := Sm.nat (by omega) (by omega) (by decide)
  have fA : cv_ A = pcv_ ps := funext fun i => funext fun x => by unfold cv_ pcv_; rw [c1]
  have fB : cv_ B = pcv_ qs := funext fun i => funext fun x => by unfold cv_ pcv_; rw [c2]
  -- the first operator at n
  obtain ⟨a1, a2, a3⟩ := apply_spec (vs := fs) (N := n) o1 (by decide) (by decide) (by decide) (b := 4) (by decide) sn (by decide) (by omega) vf
  rw [l1, fA] at a3
  obtain ⟨p1, p2, p3⟩ := applied_spec (N := n) hp hv (by decide) (by omega) (by omega)
  have e1q : fv (q_Operator_apply_at A fs (n : Int)) = prv (q_law_applied ps vs (n : Int)) := by
    rw [a3, p3]
    exact apl_ext _ fun i hi => ⟨rfl, vval (n + i) (by omega)⟩
  obtain ⟨i1, i2⟩ := isx2_spec a2 p2 e1q (by decide) (by decide)
  -- the values of the second one
  have bt : ∀ k : Nat, k < ps.length → v_law_applied qs vs ((n : Int) + (k : Int)) ∧ PrS (q_law_applied qs vs ((n : Int) + (k : Int))) 200 ∧ prv (q_law_applied qs vs ((n : Int) + (k : Int))) = apl (pcv_ qs) (fun t => prv (gt vs ((n + k + t : Nat) : Int))) ((n : Int) + (k : Int)) qs.length := fun k hk => by
    obtain ⟨b1, b2, b3⟩ := applied_spec (N := n + k) hq hv (by decide) (by omega) (by omega)
    rw [show ((n + k : Nat) : Int) = (n : Int) + (k : Int) by omega] at b1 b2 b3
    exact ⟨b1, b2.up (by decide), b3⟩
  have lz : ((rngT 0 (n : Int)).map fun (x9 : Int) => ((0 : Int), (1 : Int))).length = n := by rw [List.length_map, rngT0_length]
  have lb : ((rngT 0 (ps.length : Int)).map fun (x11 : Int) => q_law_applied qs vs ((n : Int) + x11)).length = ps.length := by rw [List.length_map, rngT0_length]
  have bmem : ∀ v ∈ (((rngT 0 (n : Int)).map fun (x9 : Int) => ((0 : Int), (1 : Int))) ++ ((rngT 0 (ps.length : Int)).map fun (x11 : Int) => q_law_applied qs vs ((n : Int) + x11))), PrS v 200 := fun v hv' => by
    rcases List.mem_append.mp hv' with q | q
    · obtain ⟨x, _, rfl⟩ := List.mem_map.mp q
      exact ⟨Sm.zero (by decide), one_sm (by decide), by decide⟩
    · obtain ⟨x, hx, rfl⟩ := List.mem_map.mp q
      have := rngT_mem.mp hx
      obtain ⟨k, rfl⟩ := Int.eq_ofNat_of_zero_le this.1
      exact (bt k (by omega)).2.1
  have bat : ∀ k : Nat, k < ps.length → gt (((rngT 0 (n : Int)).map fun (x9 : Int) => ((0 : Int), (1 : Int))) ++ ((rngT 0 (ps.length : Int)).map fun (x11 : Int) => q_law_applied qs vs ((n : Int) + x11))) ((n + k : Nat) : Int) = q_law_applied qs vs ((n : Int) + (k : Int)) := fun k hk => by
    refine gtN ?_
    rw [List.getElem?_append_right (by rw [lz]; omega), lz, show n + k - n = k by omega, List.getElem?_map, rng0_get hk]; rfl
  have lbt : (((rngT 0 (n : Int)).map fun (x9 : Int) => ((0 : Int), (1 : Int))) ++ ((rngT 0 (ps.length : Int)).map fun (x11 : Int) => q_law_applied qs vs ((n : Int) + x11))).length = n + ps.length := by rw [List.length_append, lz, lb]
  generalize hBt : (((rngT 0 (n : Int)).map fun (x9 : Int) => ((0 : Int), (1 : Int))) ++ ((rngT 0 (ps.length : Int)).map fun (x11 : Int) => q_law_applied qs vs ((n : Int) + x11))) = bet at *
  -- the product
  obtain ⟨mv, U, mo, mval⟩ := omul_spec o1 o2 (by decide) (by decide) (by decide) (by decide) (by decide) (by decide)
  rw [fA, fB, l1] at mval
  generalize hC : q_Operator_mul A B = C at *
  have lC8 : C.coefs.length ≤ 8 := mo.rv.len
  obtain ⟨d1, d2, d3⟩ := apply_spec (vs := fs) (N := n) mo (by decide) (by decide) (by decide) (b := 4) (by decide) sn (by decide) (by omega) vf
  obtain ⟨g1, g2, g3⟩ := applied_spec (N := n) (c := 200) hp bmem (by decide) (by omega) (by omega)
  have e2q : fv (q_Operator_apply_at C fs (n : Int)) = prv (q_law_applied ps bet (n : Int)) := by
    rw [d3, g3, ← apl_more (a := cv_ C) (fun j hj => cv_ge hj _) 8]
    have ext : apl (cv_ C) (fun j => fv (gt fs ((n + j : Nat) : Int))) (n : Int) (C.coefs.length + 8) = apl (fun I y => tws (pcv_ ps) (pcv_ qs) ps.length I y) (fun j => fv (gt fs ((n + j : Nat) : Int))) (n : Int) (C.coefs.length + 8) := apl_ext _ fun i _ => ⟨mval i _, rfl⟩
    rw [ext, tws_apl (pcv_ ps) (pcv_ qs) _ _ (Lb := qs.length) (fun j y hj => pcv_ge hj y) ps.length _ (by omega)]
    refine apl_ext _ fun i hi => ⟨rfl, ?_⟩
    show apl (pcv_ qs) (fun t => fv (gt fs ((n + (i + t) : Nat) : Int))) ((n : Int) + (i : Int)) qs.length = prv (gt bet ((n + i : Nat) : Int))
    rw [bat i hi, (bt i hi).2.2]
    refine apl_ext _ fun t ht => ⟨rfl, ?_⟩
    rw [vval (n + (i + t)) (by omega), show n + (i + t) = n + i + t by omega]
  obtain ⟨j1, j2⟩ := isx2_spec d2 g2 e2q (by decide) (by decide)
  -- the coefficients of the product
  obtain ⟨av, ap, ac, aval⟩ := after_spec hp hq
  generalize hF : q_law_after ps qs = F at *
  have cC : ∀ i, pr C.coefs i = ptv F i := fun i => ev_ext (mo.rv.pl i) (ptv_pl F i) fun x => (mval i x).trans (aval i x).symm
  have lCF := len_eq mo ac cC
  obtain ⟨r1, r2, r3⟩ := rd_spec mo ap (by decide) (by decide) (by decide) (by decide) (by decide) (by decide) lCF cC
  obtain ⟨s1, s2, s3⟩ := rd_spec o1 hp (by decide) (by decide) (by decide) (by decide) (by decide) (by decide) l1 c1
  obtain ⟨t1, t2, t3⟩ := rd_spec o2 hq (by decide) (by decide) (by decide) (by decide) (by decide) (by decide) l2 c2
  obtain ⟨w1, w2⟩ := are_spec vf hv vl (by omega) vval (by decide) (by decide)
  unfold v_law_15 q_law_15 v_law_16 q_law_16 v_law_17 q_law_17 v_law_18 q_law_18 v_law_20 q_law_20 v_law_21 q_law_21 v_law_22 q_law_22 v_law_24 q_law_24 v_law_26 q_law_26 v_law_28 q_law_28
  rw [hVec, hA, hB, hBt, hC, hF, i2, j2, r3, s3, t3, w2]
  refine ⟨⟨vv, ov1, ov2, a1, p1, i1, fun _ => ⟨rOk_nat (by omega), line_le (by rw [rngT0_length]; omega), rOk_nat (by omega), fun x hx => ?_, line_le (by rw [rngT0_length]; omega), line_le (by rw [lz, lb]; omega), mv, d1, g1, j1, fun _ => ⟨r1, av, r2, fun _ => ⟨s1, s2, fun _ => ⟨t1, t2⟩, fun _ => w1⟩⟩⟩⟩, rfl⟩
  have := rngT_mem.mp hx
  obtain ⟨k, rfl⟩ := Int.eq_ofNat_of_zero_le this.1
  exact (bt k (by omega)).1
theorem law_ok {ns : List Int} (hl : ns.length ≤ 63) (hb : ∀ z ∈ ns, Builtin.Int.intBits z ≤ 1048576) : v_law ns ∧ q_law ns = true := by
  obtain ⟨B, hB1, hB2, hB⟩ : ∃ B : Nat, 40 ≤ B ∧ B ≤ 20000000 ∧ ∀ z ∈ ns, z.natAbs < 2 ^ B := ⟨1048576, by decide, by decide, fun z hz => bits_lt (hb z hz)⟩
  clear hb
  obtain ⟨cv, cs⟩ := cell_spec hB hB1 hB2 0 (by decide)
  obtain ⟨dv, dd⟩ := digits_spec (lim := 1608) (count := 3) cs (by omega) (by decide) (by decide)
  have cv' : v_law_cell ns (0 : Int) := cv
  have dv' : v_law_digits (q_law_cell ns (0 : Int)) 1608 3 := dv
  show (v_law_cell ns (0 : Int) ∧ v_law_digits (q_law_cell ns (0 : Int)) 1608 3 ∧ v_law_1 ns (q_law_digits (q_law_cell ns (0 : Int)) 1608 3)) ∧ q_law_1 ns (q_law_digits (q_law_cell ns (0 : Int)) 1608 3) = true
  have dd' : Dgs (q_law_digits (q_law_cell ns (0 : Int)) 1608 3) 3 1608 := dd
  generalize q_law_digits (q_law_cell ns (0 : Int)) 1608 3 = ds at *
  clear dd dv cs
  obtain ⟨i0, -⟩ := dd'.at (i := 0) (by omega) (by omega)
  obtain ⟨i1, -⟩ := dd'.at (i := 1) (by omega) (by omega)
  obtain ⟨i2, -⟩ := dd'.at (i := 2) (by omega) (by omega)
  have hlen := dd'.len
  obtain ⟨c0, c1, c2, rfl⟩ : ∃ c0 c1 c2, ds = [c0, c1, c2] := by
    match ds, hlen with
    | [a, b, c], _ => exact ⟨a, b, c, rfl⟩
  have f0 := fmod_pos (i := c0) (j := 4) (by decide)
  have f1 := fmod_pos (i := c1) (j := 4) (by decide)
  have ecut : cutT [c0, c1, c2] none (some (2 : Int)) = [c0, c1] := cut_take (n := 2) (by simp)
  -- what comes after the orders
  have rest : ∀ o0 o1 : Int, -1 ≤ o0 → o0 ≤ 3 → -1 ≤ o1 → o1 ≤ 3 → v_law_5 ns [c0, c1, c2] [o0, o1] ∧ q_law_5 ns [c0, c1, c2] [o0, o1] = true := fun o0 o1 h1 h2 h3 h4 => by
    obtain ⟨a1, a2⟩ := drawn_spec (at_ := 4) hB hB1 hB2 h1 h2 (by decide)
    obtain ⟨b1, b2⟩ := drawn_spec (at_ := 8) hB hB1 hB2 h3 h4 (by decide)
    obtain ⟨k1, k2, k3, -, -⟩ := cut_spec a2 (by decide)
    obtain ⟨l1, l2, l3, -, -⟩ := cut_spec b2 (by decide)
    have g0 : gt [o0, o1] (0 : Int) = o0 := rfl
    have g1 : gt [o0, o1] (1 : Int) = o1 := rfl
    unfold v_law_5 q_law_5 v_law_6 q_law_6 v_law_7 q_law_7 v_law_8 q_law_8
    rw [g0, g1]
    rw [show ((4 : Nat) : Int) = 4 from rfl] at a1 k1 k2 k3
    rw [show ((8 : Nat) : Int) = 8 from rfl] at b1 l1 l2 l3
    generalize q_law_cut (q_law_drawn ns 4 o0 2) = ps at *
    generalize q_law_cut (q_law_drawn ns 8 o1 2) = qs at *
    have f2 := fmod_pos (i := gt [c0, c1, c2] (2 : Int)) (j := 13) (by decide)
    have f3 := fmod_pos (i := gt [c0, c1, c2] (1 : Int)) (j := 201) (by decide)
    obtain ⟨n, hn, nb⟩ : ∃ n : Nat, q_law_10 ns [c0, c1, c2] ps qs (Int.fmod (gt [c0, c1, c2] (2 : Int)) 13) = (n : Int) ∧ n ≤ 200 := by
      unfold q_law_10 q_law_9
      split
      · exact ⟨(Int.fmod (gt [c0, c1, c2] (1 : Int)) 201).toNat, by omega, by omega⟩
      · exact ⟨(Int.fmod (gt [c0, c1, c2] (2 : Int)) 13).toNat, by omega, by omega⟩
    rw [hn]
    obtain ⟨cv2, cs2⟩ := cell_spec hB hB1 hB2 2 (by decide)
    rw [show ((2 : Nat) : Int) = 2 from rfl] at cv2 cs2
    obtain ⟨q1, q2, q3⟩ := pairs_spec (k := 9) cs2 (by omega) (by decide)
    obtain ⟨r1, r2, r3⟩ := pairs_spec (k := n + 9) cs2 (by omega) (by omega)
    rw [show ((9 : Nat) : Int) = 9 from rfl] at q1 q2 q3
    rw [show ((n + 9 : Nat) : Int) = (n : Int) + 9 by omega] at r1 r2 r3
    have lz : ((rngT 0 (n : Int)).map fun (x5 : Int) => ((0 : Int), (1 : Int))).length = n := by rw [List.length_map, rngT0_length]
    have fin : v_law_12 ns ps qs (n : Int) (((rngT 0 (n : Int)).map fun (x5 : Int) => ((0 : Int), (1 : Int))) ++ (q_law_pairs (q_law_cell ns 2) 9)) ∧ q_law_12 ns ps qs (n : Int) (((rngT 0 (n : Int)).map fun (x5 : Int) => ((0 : Int), (1 : Int))) ++ (q_law_pairs (q_law_cell ns 2) 9)) = true := by
      unfold v_law_12 q_law_12 q_law_14 v_law_13 q_law_13
      by_cases q : (n : Int) < 13
      · rw [decide_eq_true q, if_pos rfl]
        obtain ⟨m1, m2⟩ := main_ok (n := n) k2 l2 k3 l3 r2 r3 nb
        exact ⟨⟨fun _ => ⟨cv2, r1⟩, m1⟩, m2⟩
      · rw [decide_eq_false q, if_neg (by decide)]
        obtain ⟨m1, m2⟩ := main_ok (n := n) (vs := ((rngT 0 (n : Int)).map fun (x5 : Int) => ((0 : Int), (1 : Int))) ++ (q_law_pairs (q_law_cell ns 2) 9)) k2 l2 k3 l3 (fun v hv => by
          rcases List.mem_append.mp hv with w | w
          · obtain ⟨x, _, rfl⟩ := List.mem_map.mp w
            exact ⟨Sm.zero (by decide), one_sm (by decide), by decide⟩
          · exact q2 v w) (by rw [List.length_append, lz, q3]) nb
        exact ⟨⟨fun w => (nomatch w), m1⟩, m2⟩
    unfold v_law_11 q_law_11 v_law_9
    exact ⟨⟨inR_nat (k := 0) (by simp), a1, k1, inR_nat (k := 1) (by simp), b1, l1, i2, i2, fun _ => i1, rOk_nat (by omega), line_le (by rw [rngT0_length]; omega), cv2, q1, line_le (by rw [lz, q3]; omega), fin.1⟩, fin.2⟩
  unfold v_law_1 q_law_1
  rw [ecut]
  show (_ ∧ _ ∧ _ ∧ v_law_2 ns [c0, c1, c2] [Int.fmod c0 4 - 1, Int.fmod c1 4 - 1]) ∧ q_law_2 ns [c0, c1, c2] [Int.fmod c0 4 - 1, Int.fmod c1 4 - 1] = true
  have two : v_law_2 ns [c0, c1, c2] [Int.fmod c0 4 - 1, Int.fmod c1 4 - 1] ∧ q_law_2 ns [c0, c1, c2] [Int.fmod c0 4 - 1, Int.fmod c1 4 - 1] = true := by
    have g1 : gt [Int.fmod c0 4 - 1, Int.fmod c1 4 - 1] (1 : Int) = Int.fmod c1 4 - 1 := rfl
    unfold v_law_2 q_law_2 q_law_4 v_law_3 q_law_3
    rw [g1]
    split
    · obtain ⟨m1, m2⟩ := rest 3 (Int.fmod c1 4 - 1) (by decide) (by decide) (by omega) (by omega)
      exact ⟨⟨i0, fun _ => inR_nat (k := 1) (by simp), m1⟩, m2⟩
    · obtain ⟨m1, m2⟩ := rest (Int.fmod c0 4 - 1) (Int.fmod c1 4 - 1) (by omega) (by omega) (by omega) (by omega)
      exact ⟨⟨i0, fun _ => inR_nat (k := 1) (by simp), m1⟩, m2⟩
  exact ⟨⟨cv', dv', line_le (by show 2 ≤ _; decide), two.1⟩, two.2⟩
theorem law_true (ns : List Int) (hl : ns.length ≤ 63) (hb : ∀ z ∈ ns, Builtin.Int.intBits z ≤ 1048576) : f_law [.lst (ns.map Dt.int)] = some (.ok (.fro (.bl true))) := by
  obtain ⟨v, e⟩ := law_ok hl hb
  have := r_law ns v
  rw [e] at this
  exact this
end
end G
open PySem PySem.W PySem.Calls PyProof.Rows L2 Pd
theorem PySem.Challenge.cw_certsums_k57_operator_composition_holds : PySem.Challenge.rw_certsums_k57_operator_composition.Holds := by
  w_on; o_law
  refine HandSHeadRun.head_imp (r := G.Rw) (q := view G.Rw.prog [0, 42]) (H := G.hk) (ob := G.ob) (M := 20000) (loose := [("_wall" : Str), ("__name__" : Str), ("SummationError" : Str), ("DivisionByZero" : Str), ("Fraction" : Str), ("trimmed" : Str), ("content" : Str), ("Poly" : Str), ("Operator" : Str), ("_law_cell" : Str), ("_law_digits" : Str), ("_law_trim" : Str), ("_law_mul" : Str), ("_law_sum" : Str), ("_law_scale" : Str), ("_law_at" : Str), ("_law_shift" : Str), ("_law_move" : Str), ("_law_times" : Str), ("_law_plus" : Str), ("_law_minus" : Str), ("_law_alike" : Str), ("_law_poly" : Str), ("_law_is_whole" : Str), ("_law_read" : Str), ("_law_draw" : Str), ("_law_cut" : Str), ("_law_after" : Str), ("_law_operator" : Str), ("_law_read_operator" : Str), ("_law_same" : Str), ("_law_drawn" : Str), ("_law_pairs" : Str), ("_law_vector" : Str), ("_law_applied" : Str), ("_law_is" : Str), ("_law_are" : Str)]) (d := HandSHeadRun.topDef G.Rw.prog 42) (kwd := []) G.ob_eq
    G.run (by kernel_rfl) (by kernel_rfl) (by kernel_rfl) (by rfl) (by first | assumption | decide +kernel) (by decide +kernel) ⟨rfl, rfl, rfl, rfl, rfl, by decide +kernel⟩ ?hw ?hc
  case hw => w_witness2
  case hc =>
    refine Pd.walk_end (l := PySem.Challenge.rw_certsums_k57_operator_composition) (m := 63) (k := 37) (x := "_law_script") rfl (by decide) (by kernel_rfl) ⟨rfl, by decide, by decide⟩ ?_
    intro w mg fa h Y Gm hmg0
    obtain ⟨K, KX, c⟩ := Y
    have hmg : mg ("law" : PySem.Str) = some (.ref fa) := by
      have e : (HandSHeadRun.topDef G.Rw.prog 42).name = ("law" : PySem.Str) := by kernel_rfl
      rw [← e]
      exact hmg0
    obtain ⟨fd, F, hb⟩ := Pd.law_of KX Gm c hmg 41 57 (d := G.h_law) rfl rfl rfl rfl (p := "_law_script") (fun _ _ _ _ _ _ us hl => match us, hl with | [_], _ => rfl)
    exact ⟨K, G.tab K, fd, G.f_law, KX, hb, fun ns hl hbits => G.law_true ns hl hbits, fun base KB GB => G.ok_law ⟨by kernel_rfl, _, KB, GB, c⟩ F⟩
