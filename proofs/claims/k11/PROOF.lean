import PyProof.Rows.All
import Wide.All
import OpenK.AllK
import Wide.FinOn
import KE.KStateDown
import HandS.ForMost
import HandS.ForExc
import HandS.Wide
import HandS.Gcd
import HandS.Property
import HandS.IsInst
import HandS.Defaults
import HandS.MakeKw
import HandS.MakeKwOnly
import HandS.OwnEq
import HandS.RevRange
import HandS.TupAny
import HandS.EndBits
import HandS.HeadHook4
import HandS.SlotsOwn
import OpenK.KMeth
import KE.KOpsOwn
import HandS.ExcOwn
import HandS.ExcIs
import HandS.TryOnly
import PyProof.ExcBaseAll.ValueError
import HandS.Iter
import HandS.Rev
import HandS.Zip
import KE.GoesMore
import KE.KMathGC
import HandS.List
import HandS.Deep
import HandS.ClsMeth
import KE.DataMinMax
import HandS.ExcInit
import HandS.ExcField
import KE.KExcIs
import HandS.HotCalls
import HandS.Head3
import HandS.SortKw
import HandS.Head0
import HandS.Head1
import HandS.Head2
import HandS.HeadEnd
import PySem.Challenge.RW_certsums_k11_common_divisor
set_option Elab.async false
set_option linter.all false
set_option maxRecDepth 100000
set_option maxHeartbeats 2000000
namespace Pd
open PySem PySem.Spec L2
inductive Dt where
  | non | bl (b : Bool) | int (i : Int) | str (x : Str) | ty (n : String)
  | tup (xs : List Dt) | lst (xs : List Dt) | ins (c : Nat) (xs : List Dt)
structure Tab where
  ca : Nat → Addr
  fl : Nat → List Str
mutual
def Rep (K : PySem.W.Frag) (T : Tab) (Z : Hp) : Dt → V → Prop
  | .non, v => v = .non
  | .bl b, v => v = .bl b
  | .int i, v => v = .int i
  | .str x, v => v = .str x
  | .ty n, v => v = .ty n
  | .tup ds, v => ∃ p vs, v = .ref p ∧ SqT K Z p vs ∧ Reps K T Z ds vs
  | .lst ds, v => ∃ p vs, v = .ref p ∧ SqL K Z p vs ∧ Reps K T Z ds vs
  | .ins c ds, v => ∃ p dx vs, v = .ref p ∧ Z p = some (.ins (T.ca c) dx ((T.fl c).zip vs)) ∧ vs.length = (T.fl c).length ∧ Reps K T Z ds vs
def Reps (K : PySem.W.Frag) (T : Tab) (Z : Hp) : List Dt → List V → Prop
  | [], vs => vs = []
  | d :: ds, vs => ∃ v r, vs = v :: r ∧ Rep K T Z d v ∧ Reps K T Z ds r
end
def Le (H H' : Hp) : Prop := ∀ a o, H a = some o → H' a = some o
theorem Le.refl (H : Hp) : Le H H := fun _ _ h => h
theorem Le.trans {H H1 H2 : Hp} (a : Le H H1) (b : Le H1 H2) : Le H H2 := fun c o h => b c o (a c o h)
theorem Le.free {H H' : Hp} (e : Le H H') {l : Addr} (h : H' l = none) : H l = none := by
  cases q : H l with
  | none => rfl
  | some o => rw [e l o q] at h; cases h
theorem Le.ne {H H' : Hp} (e : Le H H') {l : Addr} (h : H l ≠ none) : H' l ≠ none := fun z => h (e.free z)
theorem Le.seqL {K : PySem.W.Frag} {H H' : Hp} {a : Addr} {xs : List V} (e : Le H H') (h : SqL K H a xs) : SqL K H' a xs := by
  rcases h with (h | ⟨o, h⟩) | h
  · exact .inl (.inl (e _ _ h))
  · exact .inl (.inr ⟨o, e _ _ h⟩)
  · exact .inr h
theorem Le.seqT {K : PySem.W.Frag} {H H' : Hp} {a : Addr} {xs : List V} (e : Le H H') (h : SqT K H a xs) : SqT K H' a xs := by
  rcases h with (h | ⟨o, h⟩) | h
  · exact .inl (.inl (e _ _ h))
  · exact .inl (.inr ⟨o, e _ _ h⟩)
  · exact .inr h
theorem Le.upd {H : Hp} {p : Addr} {o : HO} (h : H p = none) : Le H (upd H p o) := fun a u e => by rw [upd_ne (ne_of_none e h)]; exact e
section
variable {K : PySem.W.Frag} {T : Tab} {Z Z' : Hp}
mutual
theorem Rep.mono (e : Le Z Z') : ∀ {d : Dt} {v : V}, Rep K T Z d v → Rep K T Z' d v
  | .non, _, h => h
  | .bl _, _, h => h
  | .int _, _, h => h
  | .str _, _, h => h
  | .ty _, _, h => h
  | .tup _, _, h => by
    simp only [Rep] at h ⊢
    obtain ⟨p, vs, h1, h2, h3⟩ := h
    exact ⟨p, vs, h1, e.seqT h2, Reps.mono e h3⟩
  | .lst _, _, h => by
    simp only [Rep] at h ⊢
    obtain ⟨p, vs, h1, h2, h3⟩ := h
    exact ⟨p, vs, h1, e.seqL h2, Reps.mono e h3⟩
  | .ins _ _, _, h => by
    simp only [Rep] at h ⊢
    obtain ⟨p, dx, vs, h1, h2, h3, h4⟩ := h
    exact ⟨p, dx, vs, h1, e _ _ h2, h3, Reps.mono e h4⟩
theorem Reps.mono (e : Le Z Z') : ∀ {ds : List Dt} {vs : List V}, Reps K T Z ds vs → Reps K T Z' ds vs
  | [], _, h => h
  | _ :: _, _, h => by
    simp only [Reps] at h ⊢
    obtain ⟨v, r, h1, h2, h3⟩ := h
    exact ⟨v, r, h1, Rep.mono e h2, Reps.mono e h3⟩
end
theorem Reps.nil : Reps K T Z [] [] := by simp only [Reps]
theorem Reps.cons {d : Dt} {v : V} {ds : List Dt} {vs : List V} (h : Rep K T Z d v) (t : Reps K T Z ds vs) : Reps K T Z (d :: ds) (v :: vs) := by
  simp only [Reps]; exact ⟨v, vs, rfl, h, t⟩
theorem Reps.nil_inv {vs : List V} (h : Reps K T Z [] vs) : vs = [] := by simpa only [Reps] using h
theorem Reps.cons_inv {d : Dt} {ds : List Dt} {vs : List V} (h : Reps K T Z (d :: ds) vs) : ∃ v r, vs = v :: r ∧ Rep K T Z d v ∧ Reps K T Z ds r := by simpa only [Reps] using h
theorem Reps.length : ∀ {ds : List Dt} {vs : List V}, Reps K T Z ds vs → vs.length = ds.length
  | [], _, h => by rw [h.nil_inv]; rfl
  | _ :: _, _, h => by
    obtain ⟨v, r, rfl, _, t⟩ := h.cons_inv
    rw [List.length_cons, List.length_cons, t.length]
theorem Reps.append : ∀ {ds es : List Dt} {vs ws : List V}, Reps K T Z ds vs → Reps K T Z es ws → Reps K T Z (ds ++ es) (vs ++ ws)
  | [], _, _, _, h, t => by rw [h.nil_inv]; exact t
  | _ :: _, _, _, _, h, t => by
    obtain ⟨v, r, rfl, a, b⟩ := h.cons_inv
    exact .cons a (b.append t)
theorem Reps.get : ∀ {ds : List Dt} {vs : List V} {i : Nat} {d : Dt}, Reps K T Z ds vs → ds[i]? = some d → ∃ v, vs[i]? = some v ∧ Rep K T Z d v
  | [], _, _, _, _, e => by simp at e
  | _ :: _, _, 0, _, h, e => by
    obtain ⟨v, r, rfl, a, b⟩ := h.cons_inv
    simp at e; subst e
    exact ⟨v, rfl, a⟩
  | _ :: _, _, i + 1, _, h, e => by
    obtain ⟨v, r, rfl, a, b⟩ := h.cons_inv
    obtain ⟨x, h1, h2⟩ := b.get (i := i) (by simpa using e)
    exact ⟨x, by simpa using h1, h2⟩
theorem Reps.set : ∀ {ds : List Dt} {vs : List V} {d : Dt} {v : V} (i : Nat), Reps K T Z ds vs → Rep K T Z d v → Reps K T Z (ds.set i d) (vs.set i v)
  | [], _, _, _, _, h, _ => by rw [h.nil_inv]; exact .nil
  | _ :: _, _, _, _, 0, h, t => by
    obtain ⟨v, r, rfl, a, b⟩ := h.cons_inv
    exact .cons t b
  | _ :: _, _, _, _, i + 1, h, t => by
    obtain ⟨v, r, rfl, a, b⟩ := h.cons_inv
    exact .cons a (b.set i t)
theorem Reps.take : ∀ {ds : List Dt} {vs : List V} (n : Nat), Reps K T Z ds vs → Reps K T Z (ds.take n) (vs.take n)
  | _, _, 0, _ => by simp only [List.take_zero]; exact .nil
  | [], _, _ + 1, h => by rw [h.nil_inv]; exact .nil
  | _ :: _, _, n + 1, h => by
    obtain ⟨v, r, rfl, a, b⟩ := h.cons_inv
    exact .cons a (b.take n)
theorem Reps.drop : ∀ {ds : List Dt} {vs : List V} (n : Nat), Reps K T Z ds vs → Reps K T Z (ds.drop n) (vs.drop n)
  | _, _, 0, h => h
  | [], _, _ + 1, h => by rw [h.nil_inv]; exact .nil
  | _ :: _, _, n + 1, h => by
    obtain ⟨v, r, rfl, a, b⟩ := h.cons_inv
    exact b.drop n
theorem Reps.ints : ∀ {ns : List Int} , Reps K T Z (ns.map Dt.int) (ns.map V.int)
  | [] => .nil
  | n :: ns => .cons (by simp only [Rep]) Reps.ints
end
structure Ext4 (Z H Z' H' : Hp) : Prop where
  hh : Le H H'
  zz : Le Z Z'
  zh : Le Z' H'
  st : ∀ a, H a ≠ none → Z' a = Z a
theorem Ext4.refl {Z H : Hp} (h : Le Z H) : Ext4 Z H Z H := ⟨Le.refl _, Le.refl _, h, fun _ _ => rfl⟩
theorem Ext4.trans {Z H Z1 H1 Z2 H2 : Hp} (a : Ext4 Z H Z1 H1) (b : Ext4 Z1 H1 Z2 H2) : Ext4 Z H Z2 H2 :=
  ⟨a.hh.trans b.hh, a.zz.trans b.zz, b.zh, fun c h => (b.st c (a.hh.ne h)).trans (a.st c h)⟩
theorem Ext4.new {Z H : Hp} {p : Addr} {o : HO} (h : Le Z H) (n : H p = none) : Ext4 Z H Z (upd H p o) :=
  ⟨Le.upd n, Le.refl _, h.trans (Le.upd n), fun _ _ => rfl⟩
theorem Ext4.newZ {Z H : Hp} {p : Addr} {o : HO} (h : Le Z H) (n : H p = none) : Ext4 Z H (upd Z p o) (upd H p o) := by
  have nz := h.free n
  refine ⟨Le.upd n, Le.upd nz, fun a u e => ?_, fun a e => ?_⟩
  · by_cases q : a = p
    · subst q; rw [upd_same] at e ⊢; exact e
    · rw [upd_ne q] at e ⊢; exact h _ _ e
  · by_cases q : a = p
    · subst q; exact absurd n e
    · rw [upd_ne q]
theorem Ext4.freeze {Z H Z1 H1 : Hp} {p : Addr} {o : HO} (a : Ext4 Z H Z1 H1) (n : H p = none) (z : Z1 p = none) (h : H1 p = some o) : Ext4 Z H (upd Z1 p o) H1 := by
  refine ⟨a.hh, a.zz.trans (Le.upd z), fun b u e => ?_, fun b e => ?_⟩
  · by_cases q : b = p
    · subst q; rw [upd_same] at e; cases e; exact h
    · rw [upd_ne q] at e; exact a.zh _ _ e
  · have q : b ≠ p := fun q => e (q ▸ n)
    rw [upd_ne q]; exact a.st b e
inductive Rs where
  | fro (d : Dt) | own (ds : List Dt) | bor (ds : List Dt)
inductive Ex (α : Type) where
  | ok (a : α) | ex (c : Nat) (ds : List Dt)
abbrev M (α : Type) := Option (Ex α)
def bnd {α β : Type} (m : M α) (k : α → M β) : M β :=
  match m with
  | none => none
  | some (.ok a) => k a
  | some (.ex c ds) => some (.ex c ds)
@[simp] theorem bnd_ok {α β : Type} (a : α) (k : α → M β) : bnd (some (.ok a)) k = k a := rfl
@[simp] theorem bnd_ex {α β : Type} (c : Nat) (ds : List Dt) (k : α → M β) : bnd (some (.ex c ds)) k = some (.ex c ds) := rfl
@[simp] theorem bnd_none {α β : Type} (k : α → M β) : bnd (none : M α) k = none := rfl
theorem bnd_cases {α β : Type} {m : M α} {k : α → M β} {out : Ex β} (h : bnd m k = some out) : (∃ c ds, m = some (.ex c ds) ∧ out = .ex c ds) ∨ (∃ r, m = some (.ok r) ∧ k r = some out) := by
  cases m with
  | none => cases h
  | some x =>
    cases x with
    | ok a => exact .inr ⟨a, rfl, h⟩
    | ex c ds => cases h; exact .inl ⟨c, ds, rfl, rfl⟩
inductive Cel where
  | fro (d : Dt) | own (ds : List Dt) | mk (c : Nat) (ds : List Dt)
abbrev PEnv := List (Option Cel)
abbrev FE := PEnv → M Rs
def isOwnC : Option (Option Cel) → Prop
  | some (some (.own _)) => True
  | some (some (.mk _ _)) => True
  | _ => False
abbrev Hx := Hp × Addr
section
variable (K : PySem.W.Frag) (T : Tab)
def RRep (B Z H : Hp) (v : V) : Rs → Prop
  | .fro d => Rep K T Z d v
  | .own ds => ∃ p vs, v = .ref p ∧ B p = none ∧ H p = some (.lst vs) ∧ Z p = none ∧ Reps K T Z ds vs
  | .bor ds => ∃ p vs, v = .ref p ∧ H p = some (.lst vs) ∧ Reps K T Z ds vs
def CRep (B Z H : Hp) (v : V) : Cel → Prop
  | .fro d => Rep K T Z d v
  | .own ds => ∃ p vs, v = .ref p ∧ B p = none ∧ H p = some (.lst vs) ∧ Z p = none ∧ Reps K T Z ds vs
  | .mk c ds => ∃ p dx vs, v = .ref p ∧ B p = none ∧ H p = some (.ins (T.ca c) dx ((T.fl c).zip vs)) ∧ Z p = none ∧ Reps K T Z ds vs
def XRep (Z H : Hp) (cls : Value) (d : Option Addr) (c : Nat) (ds : List Dt) : Prop :=
  cls = .ref (T.ca c) ∧ ((ds = [] ∧ d = none) ∨ ∃ x dd f v, ds = [x] ∧ d = some dd ∧ T.fl c = [f] ∧ H dd = some (.xd [(f, v)]) ∧ Rep K T Z x v)
structure SI (H0 : Hp) (Z0 : Hx) (env : PEnv) (σ : St) (Z H : Hp) : Prop where
  ext : Ext4 Z0.1 H0 Z H
  len : env.length = σ.length
  cell : ∀ (i : Nat) c, env[i]? = some (some c) → ∃ v, σ[i]? = some (some v) ∧ CRep K T H0 Z H v c
  sep : ∀ (i j : Nat) v, i ≠ j → isOwnC env[i]? → isOwnC env[j]? → σ[i]? = some (some v) → σ[j]? = some (some v) → False
  me : ∀ (i : Nat) c ds v, env[i]? = some (some (.mk c ds)) → σ[i]? = some (some v) → v = .ref Z0.2
end
section
variable {K : PySem.W.Frag} {T : Tab} {B Z H Z' H' Z1 H1 H0 : Hp} {Z0 : Hx} {v : V} {σ : St} {env : PEnv}
theorem RRep.step {r : Rs} (h : RRep K T B Z1 H1 v r) (e : Ext4 Z1 H1 Z' H') : RRep K T B Z' H' v r := by
  cases r with
  | fro d => exact Rep.mono e.zz h
  | own ds =>
    obtain ⟨p, vs, rfl, b, hp, zp, rs⟩ := h
    exact ⟨p, vs, rfl, b, e.hh _ _ hp, by rw [e.st p (by rw [hp]; simp)]; exact zp, rs.mono e.zz⟩
  | bor ds =>
    obtain ⟨p, vs, rfl, hp, rs⟩ := h
    exact ⟨p, vs, rfl, e.hh _ _ hp, rs.mono e.zz⟩
theorem RRep.base {B' : Hp} {r : Rs} (h : RRep K T B Z1 H1 v r) (e : Le B' B) : RRep K T B' Z1 H1 v r := by
  cases r with
  | fro d => exact h
  | own ds =>
    obtain ⟨p, vs, rfl, b, hp, zp, rs⟩ := h
    exact ⟨p, vs, rfl, e.free b, hp, zp, rs⟩
  | bor ds => exact h
theorem CRep.step {r : Cel} (h : CRep K T B Z1 H1 v r) (e : Ext4 Z1 H1 Z' H') : CRep K T B Z' H' v r := by
  cases r with
  | fro d => exact Rep.mono e.zz h
  | own ds =>
    obtain ⟨p, vs, rfl, b, hp, zp, rs⟩ := h
    exact ⟨p, vs, rfl, b, e.hh _ _ hp, by rw [e.st p (by rw [hp]; simp)]; exact zp, rs.mono e.zz⟩
  | mk c ds =>
    obtain ⟨p, dx, vs, rfl, b, hp, zp, rs⟩ := h
    exact ⟨p, dx, vs, rfl, b, e.hh _ _ hp, by rw [e.st p (by rw [hp]; simp)]; exact zp, rs.mono e.zz⟩
theorem SI.step (s : SI K T H0 Z0 env σ Z1 H1) (e : Ext4 Z1 H1 Z' H') : SI K T H0 Z0 env σ Z' H' :=
  ⟨s.ext.trans e, s.len, fun i c h => let ⟨v, h1, h2⟩ := s.cell i c h; ⟨v, h1, h2.step e⟩, s.sep, s.me⟩
theorem SI.zh (s : SI K T H0 Z0 env σ Z H) : Le Z H := s.ext.zh
end
def frz : Rs → M Dt
  | .fro d => some (.ok d)
  | .own ds => some (.ok (.lst ds))
  | .bor _ => none
@[simp] theorem frz_fro (d : Dt) : frz (.fro d) = some (.ok d) := rfl
@[simp] theorem frz_own (d : List Dt) : frz (.own d) = some (.ok (.lst d)) := rfl
@[simp] theorem frz_bor (d : List Dt) : frz (.bor d) = none := rfl
theorem RRep.freeze {K : PySem.W.Frag} {T : Tab} {Z H Z1 H1 : Hp} {v : V} {r : Rs} {d : Dt} (h : RRep K T H Z1 H1 v r) (f : frz r = some (.ok d)) (e : Ext4 Z H Z1 H1) : ∃ Z2, Ext4 Z H Z2 H1 ∧ Le Z1 Z2 ∧ Rep K T Z2 d v := by
  cases r with
  | fro d' => cases f; exact ⟨Z1, e, Le.refl _, h⟩
  | own ds =>
    cases f
    obtain ⟨p, vs, rfl, b, hp, zp, rs⟩ := h
    refine ⟨upd Z1 p (.lst vs), e.freeze b zp hp, Le.upd zp, ?_⟩
    simp only [Rep]
    exact ⟨p, vs, rfl, .of upd_same, rs.mono (Le.upd zp)⟩
  | bor ds => cases f
structure Post (K : PySem.W.Frag) (T : Tab) (Z H : Hp) (σ : St) (W : WX) (Q : VK) (out : Ex Rs) : Prop where
  ok : ∀ r, out = .ok r → ∀ v Z' H', Ext4 Z H Z' H' → RRep K T H Z' H' v r → Q v H'
  ex : ∀ c ds, out = .ex c ds → ∀ cls d Z' H', Ext4 Z H Z' H' → XRep K T Z' H' cls d c ds → W cls d σ H'
theorem Post.step {K : PySem.W.Frag} {T : Tab} {Z H Z1 H1 : Hp} {σ : St} {W : WX} {Q : VK} {out : Ex Rs} (p : Post K T Z H σ W Q out) (e : Ext4 Z H Z1 H1) : Post K T Z1 H1 σ W Q out :=
  ⟨fun r h v Z' H' e' rr => p.ok r h v Z' H' (e.trans e') (rr.base e.hh), fun c ds h cls d Z' H' e' x => p.ex c ds h cls d Z' H' (e.trans e') x⟩
def tD (K : PySem.W.Frag) (T : Tab) (W : WX) (f : FE) : TE := fun σ H Q =>
  ∃ H0 Z0 env Z out, f env = some out ∧ SI K T H0 Z0 env σ Z H ∧ Post K T Z H σ W Q out
abbrev PD (X : Cx) (T : Tab) (W : WX) (e : Expr) (f : FE) : Prop := PE X e (tD X.K T W f)
theorem PE.imp {X : Cx} {e : Expr} {t t' : TE} (h : PE X e t) (i : ∀ σ H Q, t' σ H Q → t σ H Q) : PE X e t' := ⟨fun pins s σ H Q I q => h.run pins s σ H Q I (i σ H Q q)⟩
section
variable {K : PySem.W.Frag} {T : Tab} {W : WX} {H0 Z H : Hp} {Z0 : Hx} {env : PEnv} {σ : St} {Q : VK} {out : Ex Rs}
theorem tD_bnd {fa : FE} {k : Rs → M Rs} {G : VK} (h : bnd (fa env) k = some out) (s : SI K T H0 Z0 env σ Z H) (p : Post K T Z H σ W Q out)
    (go : ∀ r v Z1 H1, k r = some out → Ext4 Z H Z1 H1 → RRep K T H Z1 H1 v r → SI K T H0 Z0 env σ Z1 H1 → Post K T Z1 H1 σ W Q out → G v H1) : tD K T W fa σ H G := by
  rcases bnd_cases h with ⟨c, ds, e1, e2⟩ | ⟨r, e1, e2⟩
  · exact ⟨H0, Z0, env, Z, _, e1, s, fun r q => (nomatch q), fun c' ds' q cls d Z' H' e x => p.ex c' ds' (e2.trans q) cls d Z' H' e x⟩
  · refine ⟨H0, Z0, env, Z, _, e1, s, fun r' q v Z' H' e rr => ?_, fun c' ds' q => (nomatch q)⟩
    cases q
    exact go r v Z' H' e2 e rr (s.step e) (p.step e)
theorem Post.fro {d : Dt} {v : V} (p : Post K T Z H σ W Q (.ok (.fro d))) (zh : Le Z H) (r : Rep K T Z d v) : Q v H := p.ok _ rfl v Z H (Ext4.refl zh) r
theorem Post.own {ds : List Dt} {vs : List V} {q : Addr} (p : Post K T Z H σ W Q (.ok (.own ds))) (zh : Le Z H) (n : H q = none) (r : Reps K T Z ds vs) : Q (.ref q) (upd H q (.lst vs)) :=
  p.ok _ rfl _ Z _ (Ext4.new zh n) ⟨q, vs, rfl, n, upd_same, zh.free n, r⟩
theorem Post.tup {ds : List Dt} {vs : List V} {q : Addr} (p : Post K T Z H σ W Q (.ok (.fro (.tup ds)))) (zh : Le Z H) (n : H q = none) (r : Reps K T Z ds vs) : Q (.ref q) (upd H q (.tup vs)) := by
  refine p.ok _ rfl _ (upd Z q (.tup vs)) _ (Ext4.newZ zh n) ?_
  show Rep K T _ (.tup ds) _
  simp only [Rep]
  exact ⟨q, vs, rfl, .of upd_same, r.mono (Le.upd (zh.free n))⟩
end
def eC (d : Dt) : FE := fun _ => some (.ok (.fro d))
def eVar (i : Nat) : FE := fun ρ => match ρ[i]? with
  | some (some (.fro d)) => some (.ok (.fro d))
  | some (some (.own ds)) => some (.ok (.bor ds))
  | _ => none
section
variable {X : Cx} {T : Tab} {W : WX} {pos : Pos}
theorem pd_var (i : Nat) {x : Str} (hN : X.N[i]? = some x := by rfl) (hv : Vis X.env.scope x := by first | exact Or.inl rfl | exact Or.inr (Or.inl rfl) | exact Or.inr (Or.inr rfl)) (hd : (x == ("__debug__" : Str)) = false := by decide)
    (hcd : (x == ("__classdict__" : Str)) = false := by decide) : PD X T W (.Name x pos) (eVar i) := by
  refine PE.imp (pe_var hN hv hd hcd) fun σ H Q ⟨H0, Z0, env, Z, out, h, s, p⟩ => ?_
  unfold eVar at h
  split at h
  · rename_i d he
    cases h
    obtain ⟨v, e1, e2⟩ := s.cell i _ he
    exact ⟨v, e1, p.fro s.zh e2⟩
  · rename_i ds he
    cases h
    obtain ⟨v, e1, q, vs, rfl, b, hp, zp, rs⟩ := s.cell i _ he
    exact ⟨_, e1, p.ok _ rfl _ Z H (Ext4.refl s.zh) ⟨q, vs, rfl, hp, rs⟩⟩
  · cases h
theorem pd_c {e : Expr} {d : Dt} {v : V} (h : PE X e (tC v)) (r : ∀ Z, Rep X.K T Z d v) : PD X T W e (eC d) := by
  refine PE.imp h fun σ H Q ⟨H0, Z0, env, Z, out, h, s, p⟩ => ?_
  cases h
  exact p.fro s.zh (r Z)
theorem pd_int {i j} : PD X T W (.Constant (.int i) j pos) (eC (.int i)) := pd_c pe_int fun _ => by simp only [Rep]
theorem pd_bl {b j} : PD X T W (.Constant (.bool b) j pos) (eC (.bl b)) := pd_c pe_bl fun _ => by simp only [Rep]
end
abbrev G2 := Rs → Rs → M Rs
abbrev G1 := Rs → M Rs
def Op2 (K : PySem.W.Frag) (T : Tab) (W : WX) (r : R2) (g : G2) : Prop := ∀ (σ : St) (B Z H : Hp) (x y : Rs) (v w : V) (out : Ex Rs) (Q : VK), Le Z H → RRep K T B Z H v x → RRep K T B Z H w y → g x y = some out → Post K T Z H σ W Q out → r v w H Q
def Op1 (K : PySem.W.Frag) (T : Tab) (W : WX) (r : V → Hp → VK → Prop) (g : G1) : Prop := ∀ (σ : St) (B Z H : Hp) (x : Rs) (v : V) (out : Ex Rs) (Q : VK), Le Z H → RRep K T B Z H v x → g x = some out → Post K T Z H σ W Q out → r v H Q
def e2 (g : G2) (fa fb : FE) : FE := fun ρ => bnd (fa ρ) fun x => bnd (fb ρ) fun y => g x y
def e1 (g : G1) (fa : FE) : FE := fun ρ => bnd (fa ρ) g
section
variable {K : PySem.W.Frag} {T : Tab} {W : WX}
theorem tOp_of {r : R2} {g : G2} {fa fb : FE} (h : Op2 K T W r g) {σ : St} {H : Hp} {Q : VK} (q : tD K T W (e2 g fa fb) σ H Q) : tOp r (tD K T W fa) (tD K T W fb) σ H Q := by
  obtain ⟨H0, Z0, env, Z, out, hf, s, p⟩ := q
  refine tD_bnd hf s p fun x v Z1 H1 hk e1 r1 s1 p1 => ?_
  refine tD_bnd hk s1 p1 fun y w Z2 H2 hk2 e2 r2 s2 p2 => ?_
  exact h σ H Z2 H2 x y v w out Q e2.zh (r1.step e2) (r2.base e1.hh) hk2 p2
theorem tUn_of {r : V → Hp → VK → Prop} {g : G1} {fa : FE} (h : Op1 K T W r g) {σ : St} {H : Hp} {Q : VK} (q : tD K T W (e1 g fa) σ H Q) : tUn r (tD K T W fa) σ H Q := by
  obtain ⟨H0, Z0, env, Z, out, hf, s, p⟩ := q
  refine tD_bnd hf s p fun x v Z1 H1 hk e1 r1 s1 p1 => ?_
  exact h σ H Z1 H1 x v out Q e1.zh r1 hk p1
variable {X : Cx} {a b : Expr} {fa fb : FE} {pos : Pos}
theorem pd_op {op : Operator} {r : R2} {g : G2} (ho : OpR X (binaryOp op) r) (h : Op2 X.K T W r g) (ha : PD X T W a fa) (hb : PD X T W b fb) : PD X T W (.BinOp a op b pos) (e2 g fa fb) :=
  PE.imp (pe_op ho ha hb) fun _ _ _ q => tOp_of h q
theorem pd_un {op : UnaryOp} {r : V → Hp → VK → Prop} {g : G1} (ho : UnR X (unaryOp op) r) (h : Op1 X.K T W r g) (ha : PD X T W a fa) : PD X T W (.UnaryOp op a pos) (e1 g fa) :=
  PE.imp (pe_un ho ha) fun _ _ _ q => tUn_of h q
theorem pd_cmp {op : CmpOp} {r : R2} {g : G2} (ho : OpR X (compareOp op) r) (h : Op2 X.K T W r g) (ha : PD X T W a fa) (hb : PD X T W b fb) (hm : behindInMarks op b = false) : PD X T W (.Compare a [op] [b] pos) (e2 g fa fb) :=
  PE.imp (pe_cmpR ho ha hb hm) fun _ _ _ q => tOp_of h q
theorem pd_ix {r : R2} {g : G2} (ho : IxR X r) (h : Op2 X.K T W r g) (ha : PD X T W a fa) (hb : PD X T W b fb) (hs : PlainIx b := by exact fun _ _ => rfl) : PD X T W (.Subscript a b pos) (e2 g fa fb) :=
  PE.imp (pe_ix ho ha hb hs) fun _ _ _ q => tOp_of h q
end
def gII (f : Int → Int → M Rs) : G2
  | .fro (.int i), .fro (.int j) => f i j
  | _, _ => none
@[simp] theorem gII_int (f : Int → Int → M Rs) (i j : Int) : gII f (.fro (.int i)) (.fro (.int j)) = f i j := rfl
theorem gII_inv {f : Int → Int → M Rs} {x y : Rs} {out : Ex Rs} (h : gII f x y = some out) : ∃ i j, x = .fro (.int i) ∧ y = .fro (.int j) ∧ f i j = some out := by
  unfold gII at h
  split at h
  · exact ⟨_, _, rfl, rfl, h⟩
  · cases h
abbrev vI (i : Int) : M Rs := some (.ok (.fro (.int i)))
abbrev vB (b : Bool) : M Rs := some (.ok (.fro (.bl b)))
section
variable {K : PySem.W.Frag} {T : Tab} {W : WX}
theorem o2_I0 {f : Int → Int → Int} : Op2 K T W (rI0 fun i j => .int (f i j)) (gII fun i j => vI (f i j)) := fun σ B Z H x y v w out Q zh r1 r2 hg p => by
  obtain ⟨i, j, rfl, rfl, e⟩ := gII_inv hg
  cases e
  simp only [RRep, Rep] at r1 r2
  exact ⟨i, j, r1, r2, p.fro zh (by simp only [Rep])⟩
theorem o2_B0 {f : Int → Int → Bool} : Op2 K T W (rI0 fun i j => .bl (f i j)) (gII fun i j => vB (f i j)) := fun σ B Z H x y v w out Q zh r1 r2 hg p => by
  obtain ⟨i, j, rfl, rfl, e⟩ := gII_inv hg
  cases e
  simp only [RRep, Rep] at r1 r2
  exact ⟨i, j, r1, r2, p.fro zh (by simp only [Rep])⟩
theorem o2_I {C : Int → Int → Prop} {c : Int → Int → Bool} {f : Int → Int → Int} (hc : ∀ i j, c i j = true → C i j) : Op2 K T W (rI C fun i j => .int (f i j)) (gII fun i j => if c i j then vI (f i j) else none) := fun σ B Z H x y v w out Q zh r1 r2 hg p => by
  obtain ⟨i, j, rfl, rfl, e⟩ := gII_inv hg
  split at e
  · rename_i hcc
    cases e
    simp only [RRep, Rep] at r1 r2
    exact ⟨i, j, r1, r2, hc i j hcc, p.fro zh (by simp only [Rep])⟩
  · cases e
end
def mulOk (i j : Int) : Bool := decide (i.natAbs.log2 + j.natAbs.log2 < 100000000)
theorem mulOk.ok {i j : Int} (h : mulOk i j = true) : IntMulOk i j := by
  have b : ∀ x : Int, Builtin.Int.intBits x ≤ x.natAbs.log2 + 1 := fun x => by
    unfold Builtin.Int.intBits
    split <;> omega
  have h1 := b i
  have h2 := b j
  have h3 : i.natAbs.log2 + j.natAbs.log2 < 100000000 := of_decide_eq_true h
  have e : bitsLine = 134217728 := by decide
  unfold IntMulOk
  intro z
  rw [Bool.and_eq_true] at z
  have z2 := z.2
  unfold Builtin.Int.intTooBig at z2
  have z3 := of_decide_eq_true z2
  rw [e] at z3
  omega
def divOk (_ j : Int) : Bool := decide (j ≠ 0)
def modOk (_ j : Int) : Bool := decide (j ≠ 0)
section
variable {X : Cx}
theorem op_mulD : OpR X (binaryOp .Mult) (rI (fun i j => mulOk i j = true) fun i j => .int (i * j)) := opI fun _ _ _ _ _ _ _ hc q => PyProof.Rows.mul_int q (mulOk.ok hc)
def gAdd : G2 := gII fun i j => vI (i + j)
def gSub : G2 := gII fun i j => vI (i - j)
def gMul : G2 := gII fun i j => if mulOk i j then vI (i * j) else none
def gDiv : G2 := gII fun i j => if divOk i j then vI (i.fdiv j) else none
def gMod : G2 := gII fun i j => if modOk i j then vI (i.fmod j) else none
def powOk (i j : Int) : Bool := decide (0 ≤ j) && decide (j ≤ 1000000) && decide (i.natAbs < 2 ^ 64)
def gPow : G2 := gII fun i j => if powOk i j then vI (i ^ j.toNat) else none
def gLt : G2 := gII fun i j => vB (decide (i < j))
def gLe : G2 := gII fun i j => vB (decide (i ≤ j))
def gGt : G2 := gII fun i j => vB (decide (j < i))
def gGe : G2 := gII fun i j => vB (decide (j ≤ i))
variable {T : Tab} {W : WX} {a b : Expr} {fa fb : FE} {pos : Pos}
theorem pd_add (ha : PD X T W a fa) (hb : PD X T W b fb) : PD X T W (.BinOp a .Add b pos) (e2 gAdd fa fb) := pd_op op_add o2_I0 ha hb
theorem pd_sub (ha : PD X T W a fa) (hb : PD X T W b fb) : PD X T W (.BinOp a .Sub b pos) (e2 gSub fa fb) := pd_op op_sub o2_I0 ha hb
theorem pd_mul (ha : PD X T W a fa) (hb : PD X T W b fb) : PD X T W (.BinOp a .Mult b pos) (e2 gMul fa fb) := pd_op op_mulD (o2_I fun _ _ h => h) ha hb
theorem pd_mod (ha : PD X T W a fa) (hb : PD X T W b fb) : PD X T W (.BinOp a .Mod b pos) (e2 gMod fa fb) := pd_op op_modN (o2_I fun _ _ h => of_decide_eq_true h) ha hb
theorem pd_pow (ha : PD X T W a fa) (hb : PD X T W b fb) : PD X T W (.BinOp a .Pow b pos) (e2 gPow fa fb) := pd_op op_pow (o2_I fun _ _ h => by
  unfold powOk at h
  simp only [Bool.and_eq_true, decide_eq_true_eq] at h
  exact ⟨h.1.1, h.1.2, h.2⟩) ha hb
theorem pd_ge (ha : PD X T W a fa) (hb : PD X T W b fb) : PD X T W (.Compare a [.GtE] [b] pos) (e2 gGe fa fb) := pd_cmp op_ge o2_B0 ha hb (nomark _)
end
end Pd
set_option maxHeartbeats 2000000
namespace Pd
open PySem PySem.Spec L2
open PyProof.Rows (envOfC)
abbrev FT := PEnv → M Bool
structure PostT (K : PySem.W.Frag) (T : Tab) (Z H : Hp) (σ : St) (W : WX) (Q : Bool → Hp → Prop) (out : Ex Bool) : Prop where
  ok : ∀ r, out = .ok r → ∀ Z' H', Ext4 Z H Z' H' → Q r H'
  ex : ∀ c ds, out = .ex c ds → ∀ cls d Z' H', Ext4 Z H Z' H' → XRep K T Z' H' cls d c ds → W cls d σ H'
theorem PostT.step {K : PySem.W.Frag} {T : Tab} {Z H Z1 H1 : Hp} {σ : St} {W : WX} {Q : Bool → Hp → Prop} {out : Ex Bool} (p : PostT K T Z H σ W Q out) (e : Ext4 Z H Z1 H1) : PostT K T Z1 H1 σ W Q out :=
  ⟨fun r h Z' H' e' => p.ok r h Z' H' (e.trans e'), fun c ds h cls d Z' H' e' x => p.ex c ds h cls d Z' H' (e.trans e') x⟩
def tDT (K : PySem.W.Frag) (T : Tab) (W : WX) (f : FT) : TT := fun σ H Q =>
  ∃ H0 Z0 env Z out, f env = some out ∧ SI K T H0 Z0 env σ Z H ∧ PostT K T Z H σ W Q out
abbrev PDT (X : Cx) (T : Tab) (W : WX) (e : Expr) (f : FT) : Prop := PT X e (tDT X.K T W f)
abbrev PDW (X : Cx) (T : Tab) (W : WX) (e : Expr) (f : FT) : Prop := PW X e (tDT X.K T W f)
theorem PT.imp {X : Cx} {e : Expr} {t t' : TT} (h : PT X e t) (i : ∀ σ H Q, t' σ H Q → t σ H Q) : PT X e t' := ⟨fun pins s σ H Q I q => h.run pins s σ H Q I (i σ H Q q)⟩
theorem PW.imp {X : Cx} {e : Expr} {t t' : TT} (h : PW X e t) (i : ∀ σ H Q, t' σ H Q → t σ H Q) : PW X e t' := ⟨fun wh pins s σ H Q I q => h.run wh pins s σ H Q I (i σ H Q q)⟩
section
variable {K : PySem.W.Frag} {T : Tab} {W : WX} {H0 Z H : Hp} {Z0 : Hx} {env : PEnv} {σ : St}
theorem tD_bndT {fa : FE} {k : Rs → M Bool} {out : Ex Bool} {Q : Bool → Hp → Prop} {G : VK} (h : bnd (fa env) k = some out) (s : SI K T H0 Z0 env σ Z H) (p : PostT K T Z H σ W Q out)
    (go : ∀ r v Z1 H1, k r = some out → Ext4 Z H Z1 H1 → RRep K T H Z1 H1 v r → SI K T H0 Z0 env σ Z1 H1 → PostT K T Z1 H1 σ W Q out → G v H1) : tD K T W fa σ H G := by
  rcases bnd_cases h with ⟨c, ds, e1, e2⟩ | ⟨r, e1, e2⟩
  · exact ⟨H0, Z0, env, Z, _, e1, s, fun r q => (nomatch q), fun c' ds' q cls d Z' H' e x => by cases q; exact p.ex _ _ e2 cls d Z' H' e x⟩
  · refine ⟨H0, Z0, env, Z, _, e1, s, fun r' q v Z' H' e rr => ?_, fun c' ds' q => (nomatch q)⟩
    cases q
    exact go r v Z' H' e2 e rr (s.step e) (p.step e)
theorem tDT_bnd {fa : FT} {k : Bool → M Bool} {out : Ex Bool} {Q : Bool → Hp → Prop} {G : Bool → Hp → Prop} (h : bnd (fa env) k = some out) (s : SI K T H0 Z0 env σ Z H) (p : PostT K T Z H σ W Q out)
    (go : ∀ b Z1 H1, k b = some out → Ext4 Z H Z1 H1 → SI K T H0 Z0 env σ Z1 H1 → PostT K T Z1 H1 σ W Q out → G b H1) : tDT K T W fa σ H G := by
  rcases bnd_cases h with ⟨c, ds, e1, e2⟩ | ⟨r, e1, e2⟩
  · exact ⟨H0, Z0, env, Z, _, e1, s, fun r q => (nomatch q), fun c' ds' q cls d Z' H' e x => by cases q; exact p.ex _ _ e2 cls d Z' H' e x⟩
  · refine ⟨H0, Z0, env, Z, _, e1, s, fun r' q Z' H' e => ?_, fun c' ds' q => (nomatch q)⟩
    cases q
    exact go r Z' H' e2 e (s.step e) (p.step e)
end
def asB : Rs → M Bool
  | .fro (.bl b) => some (.ok b)
  | _ => none
@[simp] theorem asB_bl (b : Bool) : asB (.fro (.bl b)) = some (.ok b) := rfl
theorem asB_inv {r : Rs} {out : Ex Bool} (h : asB r = some out) : ∃ b, r = .fro (.bl b) ∧ out = .ok b := by
  unfold asB at h
  split at h
  · cases h; exact ⟨_, rfl, rfl⟩
  · cases h
def tru : Rs → M Bool
  | .fro .non => some (.ok false)
  | .fro (.bl b) => some (.ok b)
  | .fro (.int i) => some (.ok (i != 0))
  | .fro (.lst ds) => some (.ok (!ds.isEmpty))
  | .own ds => some (.ok (!ds.isEmpty))
  | .bor ds => some (.ok (!ds.isEmpty))
  | .fro (.tup ds) => some (.ok (!ds.isEmpty))
  | _ => none
def tB (f : FE) : FT := fun ρ => bnd (f ρ) asB
def tTru (f : FE) : FT := fun ρ => bnd (f ρ) tru
def tNot (t : FT) : FT := fun ρ => bnd (t ρ) fun b => some (.ok (!b))
def tAnd (t u : FT) : FT := fun ρ => bnd (t ρ) fun b => if b then u ρ else some (.ok false)
def tOr (t u : FT) : FT := fun ρ => bnd (t ρ) fun b => if b then some (.ok true) else u ρ
def eAnd (f g : FE) : FE := fun ρ => bnd (f ρ) fun r => bnd (asB r) fun b => if b then g ρ else vB false
def eOr (f g : FE) : FE := fun ρ => bnd (f ρ) fun r => bnd (asB r) fun b => if b then vB true else g ρ
def eNot (f : FE) : FE := fun ρ => bnd (f ρ) fun r => bnd (asB r) fun b => vB (!b)
def eIf (t : FT) (f g : FE) : FE := fun ρ => bnd (t ρ) fun b => if b then f ρ else g ρ
def eChain (g g' : G2) (fa fb fc : FE) : FE := fun ρ => bnd (fa ρ) fun x => bnd (fb ρ) fun y => bnd (g x y) fun z => bnd (asB z) fun b => if b then bnd (fc ρ) fun w => g' y w else vB false
section
variable {X : Cx} {T : Tab} {W : WX} {a b c : Expr} {fa fb fc : FE} {ta tb : FT} {pos : Pos} {rest : List Expr}
theorem reps_empty {K : PySem.W.Frag} {Z : Hp} {ds : List Dt} {vs : List V} (h : Reps K T Z ds vs) : ds.isEmpty = vs.isEmpty := by
  cases ds with
  | nil => rw [h.nil_inv]; rfl
  | cons d ds => obtain ⟨v, r, rfl, _⟩ := h.cons_inv; rfl
theorem pdt_tru (ha : PD X T W a fa) (he : ∀ whole, isTrue a X.env whole = (do let v ← whole; standAt a.pos; holding [v] (truthy v)) := by intro _; rfl) : PDT X T W a (tTru fa) := by
  refine PT.imp (pt_truth ha he) fun σ H Q ⟨H0, Z0, env, Z, out, h, s, p⟩ => ?_
  refine tD_bndT h s p fun r v Z1 H1 hk e1 rr s1 p1 => ?_
  unfold tru at hk
  split at hk <;> first | cases hk | skip
  · simp only [RRep, Rep] at rr; subst rr; exact ⟨_, rfl, p1.ok _ rfl Z1 H1 (Ext4.refl e1.zh)⟩
  · simp only [RRep, Rep] at rr; subst rr; exact ⟨_, rfl, p1.ok _ rfl Z1 H1 (Ext4.refl e1.zh)⟩
  · simp only [RRep, Rep] at rr; subst rr; exact ⟨_, rfl, p1.ok _ rfl Z1 H1 (Ext4.refl e1.zh)⟩
  · simp only [RRep, Rep] at rr
    obtain ⟨q, vs, rfl, h1, h2⟩ := rr
    exact ⟨_, .inl ⟨vs, e1.zh.seqL h1, by rw [reps_empty h2]⟩, p1.ok _ rfl Z1 H1 (Ext4.refl e1.zh)⟩
  · obtain ⟨q, vs, rfl, _, h1, _, h2⟩ := rr
    exact ⟨_, .inl ⟨vs, .of h1, by rw [reps_empty h2]⟩, p1.ok _ rfl Z1 H1 (Ext4.refl e1.zh)⟩
  · obtain ⟨q, vs, rfl, h1, h2⟩ := rr
    exact ⟨_, .inl ⟨vs, .of h1, by rw [reps_empty h2]⟩, p1.ok _ rfl Z1 H1 (Ext4.refl e1.zh)⟩
  · simp only [RRep, Rep] at rr
    obtain ⟨q, vs, rfl, h1, h2⟩ := rr
    exact ⟨_, .inr (.inl ⟨vs, e1.zh.seqT h1, by rw [reps_empty h2]⟩), p1.ok _ rfl Z1 H1 (Ext4.refl e1.zh)⟩
theorem pdt_cmp {op : CmpOp} {r : R2} {g : G2} (ho : OpR X (compareOp op) r) (h : Op2 X.K T W r g) (ha : PD X T W a fa) (hb : PD X T W b fb) (hm : behindInMarks op b = false) : PDT X T W (.Compare a [op] [b] pos) (tB (e2 g fa fb)) := by
  refine PT.imp (pt_cmpR ho ha hb hm) fun σ H Q ⟨H0, Z0, env, Z, out, hf, s, p⟩ => ?_
  have q : tD X.K T W (e2 g fa fb) σ H fun x H' => ∃ k, x = .bl k ∧ Q k H' :=
    tD_bndT hf s p fun r v Z1 H1 hk e1 rr s1 p1 => by
      obtain ⟨b, rfl, rfl⟩ := asB_inv hk
      simp only [RRep, Rep] at rr
      exact ⟨b, rr, p1.ok b rfl Z1 H1 (Ext4.refl e1.zh)⟩
  exact tOp_of h q
theorem pdt_lt (ha : PD X T W a fa) (hb : PD X T W b fb) : PDT X T W (.Compare a [.Lt] [b] pos) (tB (e2 gLt fa fb)) := pdt_cmp op_lt o2_B0 ha hb (nomark _)
theorem pdt_gt (ha : PD X T W a fa) (hb : PD X T W b fb) : PDT X T W (.Compare a [.Gt] [b] pos) (tB (e2 gGt fa fb)) := pdt_cmp op_gt o2_B0 ha hb (nomark _)
theorem pdt_ge (ha : PD X T W a fa) (hb : PD X T W b fb) : PDT X T W (.Compare a [.GtE] [b] pos) (tB (e2 gGe fa fb)) := pdt_cmp op_ge o2_B0 ha hb (nomark _)
theorem pdt_not (ha : PDT X T W a ta) : PDT X T W (.UnaryOp .Not a pos) (tNot ta) := by
  refine PT.imp (pt_not ha) fun σ H Q ⟨H0, Z0, env, Z, out, h, s, p⟩ => ?_
  refine tDT_bnd h s p fun b Z1 H1 hk e1 s1 p1 => ?_
  cases hk
  exact p1.ok _ rfl Z1 H1 (Ext4.refl e1.zh)
theorem pdw_and1 (ha : PDT X T W a ta) : PDW X T W (.BoolOp .And [a] pos) ta := pw_and1 ha
theorem pdw_or1 (ha : PDT X T W a ta) : PDW X T W (.BoolOp .Or [a] pos) ta := pw_or1 ha
theorem pdw_and (ha : PDT X T W a ta) (hb : PDW X T W (.BoolOp .And (b :: rest) pos) tb) : PDW X T W (.BoolOp .And (a :: b :: rest) pos) (tAnd ta tb) := by
  refine PW.imp (pw_and ha hb) fun σ H Q ⟨H0, Z0, env, Z, out, h, s, p⟩ => ?_
  refine tDT_bnd h s p fun b Z1 H1 hk e1 s1 p1 => ?_
  cases b with
  | true => exact iteT ⟨H0, Z0, env, Z1, out, hk, s1, p1⟩
  | false => cases hk; exact iteF (p1.ok _ rfl Z1 H1 (Ext4.refl e1.zh))
theorem pdw_or (ha : PDT X T W a ta) (hb : PDW X T W (.BoolOp .Or (b :: rest) pos) tb) : PDW X T W (.BoolOp .Or (a :: b :: rest) pos) (tOr ta tb) := by
  refine PW.imp (pw_or ha hb) fun σ H Q ⟨H0, Z0, env, Z, out, h, s, p⟩ => ?_
  refine tDT_bnd h s p fun b Z1 H1 hk e1 s1 p1 => ?_
  cases b with
  | true => cases hk; exact iteT (p1.ok _ rfl Z1 H1 (Ext4.refl e1.zh))
  | false => exact iteF ⟨H0, Z0, env, Z1, out, hk, s1, p1⟩
theorem pdt_of (h : PDW X T W a ta) : PDT X T W a ta := PW.pt h
theorem pd_one {op} (ha : PD X T W a fa) : PD X T W (.BoolOp op [a] pos) fa := pe_one ha
theorem pd_and' (ha : PD X T W a fa) (hb : PD X T W (.BoolOp .And (b :: rest) pos) fb) : PD X T W (.BoolOp .And (a :: b :: rest) pos) (eAnd fa fb) := by
  refine PE.imp (pe_and ha hb) fun σ H Q ⟨H0, Z0, env, Z, out, h, s, p⟩ => ?_
  refine tD_bnd h s p fun r v Z1 H1 hk e1 rr s1 p1 => ?_
  rcases bnd_cases hk with ⟨c, ds, q1, q2⟩ | ⟨b, q1, q2⟩
  · obtain ⟨_, _, z⟩ := asB_inv q1; cases z
  · obtain ⟨b', rfl, z⟩ := asB_inv q1; cases z
    simp only [RRep, Rep] at rr
    refine ⟨b, rr, ?_⟩
    cases b with
    | true => exact iteT ⟨H0, Z0, env, Z1, out, q2, s1, p1⟩
    | false => cases q2; exact iteF (p1.fro e1.zh (by simp only [Rep]))
theorem pd_not (ha : PD X T W a fa) : PD X T W (.UnaryOp .Not a pos) (eNot fa) := by
  refine PE.imp (pe_not ha) fun σ H Q ⟨H0, Z0, env, Z, out, h, s, p⟩ => ?_
  refine tD_bnd h s p fun r v Z1 H1 hk e1 rr s1 p1 => ?_
  rcases bnd_cases hk with ⟨c, ds, q1, q2⟩ | ⟨b, q1, q2⟩
  · obtain ⟨_, _, z⟩ := asB_inv q1; cases z
  · obtain ⟨b', rfl, z⟩ := asB_inv q1; cases z
    simp only [RRep, Rep] at rr
    cases q2
    exact ⟨b, rr, p1.fro e1.zh (by simp only [Rep])⟩
end
def sclD : Dt → Dt → Option Bool
  | .non, .non => some true | .non, .int _ => some false | .int _, .non => some false | .non, .bl _ => some false | .bl _, .non => some false | .non, .str _ => some false | .str _, .non => some false
  | .int i, .int j => some (decide (i = j)) | .bl i, .bl j => some (decide (i = j)) | .str i, .str j => some (decide (i = j))
  | .int _, .str _ => some false | .str _, .int _ => some false | .bl _, .str _ => some false | .str _, .bl _ => some false
  | _, _ => none
def gEqS : G2
  | .fro a, .fro b => match sclD a b with | some r => vB r | none => none
  | _, _ => none
def gNeS : G2
  | .fro a, .fro b => match sclD a b with | some r => vB (!r) | none => none
  | _, _ => none
theorem sclD_ok {K : PySem.W.Frag} {T : Tab} {Z : Hp} {a b : Dt} {v w : V} {r : Bool} (h : sclD a b = some r) (h1 : Rep K T Z a v) (h2 : Rep K T Z b w) : scal v w = true ∧ decide (v = w) = r := by
  cases a <;> cases b <;> first | (cases h; done) | (simp only [Rep] at h1 h2; subst h1 h2; simp only [sclD, Option.some.injEq] at h; subst h; exact ⟨rfl, by simp⟩)
section
variable {X : Cx} {T : Tab} {W : WX} {a b c : Expr} {fa fb fc : FE} {pos : Pos}
theorem o2_eqS {K : PySem.W.Frag} : Op2 K T W rEq gEqS := fun σ B Z H x y v w out Q zh r1 r2 hg p => by
  unfold gEqS at hg
  split at hg
  · split at hg
    · rename_i r hr
      cases hg
      obtain ⟨e1, e2⟩ := sclD_ok hr r1 r2
      exact ⟨e1, by rw [e2]; exact p.fro zh (by simp only [Rep])⟩
    · cases hg
  · cases hg
theorem o2_neS {K : PySem.W.Frag} : Op2 K T W rNe gNeS := fun σ B Z H x y v w out Q zh r1 r2 hg p => by
  unfold gNeS at hg
  split at hg
  · split at hg
    · rename_i r hr
      cases hg
      obtain ⟨e1, e2⟩ := sclD_ok hr r1 r2
      exact ⟨e1, by rw [e2]; exact p.fro zh (by simp only [Rep])⟩
    · cases hg
  · cases hg
theorem pd_eqS (ha : PD X T W a fa) (hb : PD X T W b fb) : PD X T W (.Compare a [.Eq] [b] pos) (e2 gEqS fa fb) := pd_cmp op_eq o2_eqS ha hb (nomark _)
theorem pdt_eqS (ha : PD X T W a fa) (hb : PD X T W b fb) : PDT X T W (.Compare a [.Eq] [b] pos) (tB (e2 gEqS fa fb)) := pdt_cmp op_eq o2_eqS ha hb (nomark _)
theorem pdt_neS (ha : PD X T W a fa) (hb : PD X T W b fb) : PDT X T W (.Compare a [.NotEq] [b] pos) (tB (e2 gNeS fa fb)) := pdt_cmp op_ne o2_neS ha hb (nomark _)
def gNeg : G1
  | .fro (.int i) => vI (-i)
  | _ => none
theorem pd_neg (ha : PD X T W a fa) : PD X T W (.UnaryOp .USub a pos) (e1 gNeg fa) := pd_un un_neg (fun σ B Z H x v out Q zh r1 hg p => by
  unfold gNeg at hg
  split at hg
  · cases hg
    simp only [RRep, Rep] at r1
    exact ⟨_, r1, p.fro zh (by simp only [Rep])⟩
  · cases hg) ha
end
inductive Out where
  | nx (env : PEnv) | rt (r : Rs) | bk (env : PEnv) | ct (env : PEnv) | xc (c : Nat) (ds : List Dt) (env : PEnv)
abbrev FS := PEnv → Option Out
structure PostS (K : PySem.W.Frag) (T : Tab) (H0 : Hp) (Z0 : Hx) (W : WX) (D : Ends) (out : Out) : Prop where
  nx : ∀ env, out = .nx env → ∀ σ Z H, SI K T H0 Z0 env σ Z H → D.nx σ H
  rt : ∀ r, out = .rt r → ∀ v Z H, Ext4 Z0.1 H0 Z H → RRep K T H0 Z H v r → D.rt v H
  bk : ∀ env, out = .bk env → ∀ σ Z H, SI K T H0 Z0 env σ Z H → D.bk σ H
  ct : ∀ env, out = .ct env → ∀ σ Z H, SI K T H0 Z0 env σ Z H → D.ct σ H
  xc : ∀ c ds env, out = .xc c ds env → ∀ cls d σ Z H, SI K T H0 Z0 env σ Z H → XRep K T Z H cls d c ds → W cls d σ H
def tDS (K : PySem.W.Frag) (T : Tab) (W : WX) (F : FS) : TS := fun D σ H => ∃ H0 Z0 env Z out, F env = some out ∧ SI K T H0 Z0 env σ Z H ∧ PostS K T H0 Z0 W D out
abbrev PDS (X : Cx) (T : Tab) (W : WX) (st : Stmt) (F : FS) : Prop := PS X st (tDS X.K T W F)
abbrev PDSs (X : Cx) (T : Tab) (W : WX) (st : List Stmt) (F : FS) : Prop := PSs X st (tDS X.K T W F)
theorem PS.imp {X : Cx} {e : Stmt} {t t' : TS} (h : PS X e t) (i : ∀ D σ H, t' D σ H → t D σ H) : PS X e t' := ⟨fun pins s σ H D I q => h.run pins s σ H D I (i D σ H q)⟩
theorem PSs.imp {X : Cx} {e : List Stmt} {t t' : TS} (h : PSs X e t) (i : ∀ D σ H, t' D σ H → t D σ H) : PSs X e t' := ⟨fun pins s σ H D I q => h.run pins s σ H D I (i D σ H q)⟩
def bndS {α : Type} (ρ : PEnv) (m : M α) (k : α → Option Out) : Option Out :=
  match m with
  | none => none
  | some (.ok a) => k a
  | some (.ex c ds) => some (.xc c ds ρ)
@[simp] theorem bndS_ok {α : Type} (ρ : PEnv) (a : α) (k : α → Option Out) : bndS ρ (some (.ok a)) k = k a := rfl
@[simp] theorem bndS_ex {α : Type} (ρ : PEnv) (c : Nat) (ds : List Dt) (k : α → Option Out) : bndS ρ (some (.ex c ds)) k = some (.xc c ds ρ) := rfl
@[simp] theorem bndS_none {α : Type} (ρ : PEnv) (k : α → Option Out) : bndS ρ (none : M α) k = none := rfl
theorem bndS_cases {α : Type} {ρ : PEnv} {m : M α} {k : α → Option Out} {out : Out} (h : bndS ρ m k = some out) : (∃ c ds, m = some (.ex c ds) ∧ out = .xc c ds ρ) ∨ (∃ r, m = some (.ok r) ∧ k r = some out) := by
  cases m with
  | none => cases h
  | some x =>
    cases x with
    | ok a => exact .inr ⟨a, rfl, h⟩
    | ex c ds => cases h; exact .inl ⟨c, ds, rfl, rfl⟩
section
variable {K : PySem.W.Frag} {T : Tab} {W : WX} {H0 Z H : Hp} {Z0 : Hx} {env : PEnv} {σ : St} {D : Ends} {out : Out}
theorem tD_bndS {fa : FE} {k : Rs → Option Out} {G : VK} (h : bndS env (fa env) k = some out) (s : SI K T H0 Z0 env σ Z H) (p : PostS K T H0 Z0 W D out)
    (go : ∀ r v Z1 H1, k r = some out → Ext4 Z H Z1 H1 → RRep K T H Z1 H1 v r → SI K T H0 Z0 env σ Z1 H1 → G v H1) : tD K T W fa σ H G := by
  rcases bndS_cases h with ⟨c, ds, e1, e2⟩ | ⟨r, e1, e2⟩
  · exact ⟨H0, Z0, env, Z, _, e1, s, fun r q => (nomatch q), fun c' ds' q cls d Z' H' e x => by cases q; exact p.xc _ _ _ e2 cls d σ Z' H' (s.step e) x⟩
  · refine ⟨H0, Z0, env, Z, _, e1, s, fun r' q v Z' H' e rr => ?_, fun c' ds' q => (nomatch q)⟩
    cases q
    exact go r v Z' H' e2 e rr (s.step e)
theorem tD_bndSF {fa : FE} {k : Dt → Option Out} {G : VK} (h : bndS env (fa env) (fun r => bndS env (frz r) k) = some out) (s : SI K T H0 Z0 env σ Z H) (p : PostS K T H0 Z0 W D out)
    (go : ∀ d v Z1 H1, k d = some out → Ext4 Z H Z1 H1 → Rep K T Z1 d v → SI K T H0 Z0 env σ Z1 H1 → G v H1) : tD K T W fa σ H G := by
  refine tD_bndS h s p fun r v Z1 H1 hk e rr s1 => ?_
  rcases bndS_cases hk with ⟨c, ds, e1, e2⟩ | ⟨d, e1, e2⟩
  · cases r <;> cases e1
  · obtain ⟨Z2, x, _, y⟩ := rr.freeze e1 e
    exact go d v Z2 H1 e2 x y (s.step x)
theorem tDT_bndS {fa : FT} {k : Bool → Option Out} {G : Bool → Hp → Prop} (h : bndS env (fa env) k = some out) (s : SI K T H0 Z0 env σ Z H) (p : PostS K T H0 Z0 W D out)
    (go : ∀ b Z1 H1, k b = some out → Ext4 Z H Z1 H1 → SI K T H0 Z0 env σ Z1 H1 → G b H1) : tDT K T W fa σ H G := by
  rcases bndS_cases h with ⟨c, ds, e1, e2⟩ | ⟨r, e1, e2⟩
  · exact ⟨H0, Z0, env, Z, _, e1, s, fun r q => (nomatch q), fun c' ds' q cls d Z' H' e x => by cases q; exact p.xc _ _ _ e2 cls d σ Z' H' (s.step e) x⟩
  · refine ⟨H0, Z0, env, Z, _, e1, s, fun r' q Z' H' e => ?_, fun c' ds' q => (nomatch q)⟩
    cases q
    exact go r Z' H' e2 e (s.step e)
theorem SI.setFro (s : SI K T H0 Z0 env σ Z H) {i : Nat} {d : Dt} {v : V} (r : Rep K T Z d v) : SI K T H0 Z0 (env.set i (some (.fro d))) (σ.set i (some v)) Z H := by
  refine ⟨s.ext, by simp [s.len], fun j c h => ?_, fun j k u hjk h1 h2 h3 h4 => ?_, fun j c' ds' v' h h' => ?_⟩
  rotate_right 1
  · by_cases q : i = j
    · subst q
      by_cases hl : i < env.length
      · rw [List.getElem?_set_self hl] at h; cases h
      · rw [List.getElem?_eq_none (by simpa using hl)] at h; cases h
    · rw [List.getElem?_set_ne q] at h h'; exact s.me j _ _ _ h h'
  · by_cases q : i = j
    · subst q
      have hl : i < env.length := by
        have := (List.getElem?_eq_some_iff.mp h).1
        simpa using this
      rw [List.getElem?_set_self hl] at h
      cases h
      exact ⟨v, by rw [List.getElem?_set_self (by rw [← s.len]; exact hl)], r⟩
    · rw [List.getElem?_set_ne q] at h
      obtain ⟨u, h1, h2⟩ := s.cell j c h
      exact ⟨u, by rw [List.getElem?_set_ne q]; exact h1, h2⟩
  · have nf : ∀ m, isOwnC ((env.set i (some (.fro d)))[m]?) → i ≠ m ∧ isOwnC env[m]? := fun m hm => by
      by_cases q : i = m
      · subst q
        by_cases hl : i < env.length
        · rw [List.getElem?_set_self hl] at hm; exact hm.elim
        · rw [List.getElem?_eq_none (by simpa using hl)] at hm; exact hm.elim
      · rw [List.getElem?_set_ne q] at hm; exact ⟨q, hm⟩
    obtain ⟨a1, a2⟩ := nf j h1
    obtain ⟨b1, b2⟩ := nf k h2
    rw [List.getElem?_set_ne a1] at h3
    rw [List.getElem?_set_ne b1] at h4
    exact s.sep j k u hjk a2 b2 h3 h4
theorem SI.setOwn (s : SI K T H0 Z0 env σ Z H) {i : Nat} {ds : List Dt} {q : Addr} (r : CRep K T H0 Z H (.ref q) (.own ds)) (n : ∀ (j : Nat), isOwnC env[j]? → σ[j]? = some (some (.ref q)) → i = j) : SI K T H0 Z0 (env.set i (some (.own ds))) (σ.set i (some (.ref q))) Z H := by
  refine ⟨s.ext, by simp [s.len], fun j c' h => ?_, fun j k u hjk h1 h2 h3 h4 => ?_, fun j c' ds' v' h h' => ?_⟩
  rotate_right 1
  · by_cases e : i = j
    · subst e
      by_cases hl : i < env.length
      · rw [List.getElem?_set_self hl] at h; cases h
      · rw [List.getElem?_eq_none (by simpa using hl)] at h; cases h
    · rw [List.getElem?_set_ne e] at h h'; exact s.me j _ _ _ h h'
  · by_cases e : i = j
    · subst e
      have hl : i < env.length := by
        have := (List.getElem?_eq_some_iff.mp h).1
        simpa using this
      rw [List.getElem?_set_self hl] at h
      cases h
      exact ⟨_, by rw [List.getElem?_set_self (by rw [← s.len]; exact hl)], r⟩
    · rw [List.getElem?_set_ne e] at h
      obtain ⟨u, h1, h2⟩ := s.cell j c' h
      exact ⟨u, by rw [List.getElem?_set_ne e]; exact h1, h2⟩
  · by_cases a : i = j
    · subst a
      have b : i ≠ k := hjk
      rw [List.getElem?_set_ne b] at h2 h4
      have hl : i < σ.length := by
        have := (List.getElem?_eq_some_iff.mp h3).1
        simpa using this
      rw [List.getElem?_set_self hl] at h3
      cases h3
      exact b (n k h2 h4)
    · rw [List.getElem?_set_ne a] at h1 h3
      by_cases b : i = k
      · subst b
        have hl : i < σ.length := by
          have := (List.getElem?_eq_some_iff.mp h4).1
          simpa using this
        rw [List.getElem?_set_self hl] at h4
        cases h4
        exact a (n j h1 h3)
      · rw [List.getElem?_set_ne b] at h2 h4
        exact s.sep j k u hjk h1 h2 h3 h4
theorem SI.ownAt (s : SI K T H0 Z0 env σ Z H) {j : Nat} {v : V} (h : isOwnC env[j]?) (e : σ[j]? = some (some v)) : ∃ q o, v = .ref q ∧ H q = some o ∧ H0 q = none ∧ Z q = none := by
  match he : env[j]?, h with
  | some (some (.own ds)), _ =>
    obtain ⟨u, h1, q, vs, rfl, b, hq, zq, _⟩ := s.cell j _ he
    rw [e] at h1; cases h1
    exact ⟨q, _, rfl, hq, b, zq⟩
  | some (some (.mk c ds)), _ =>
    obtain ⟨u, h1, q, dx, vs, rfl, b, hq, zq, _⟩ := s.cell j _ he
    rw [e] at h1; cases h1
    exact ⟨q, _, rfl, hq, b, zq⟩
end
def celOf : Rs → Option Cel
  | .fro d => some (.fro d)
  | .own ds => some (.own ds)
  | .bor _ => none
def sSet (i : Nat) (f : FE) : FS := fun ρ => bndS ρ (f ρ) fun r => match celOf r with
  | some c => some (.nx (ρ.set i (some c)))
  | none => none
def sSeq (F G : FS) : FS := fun ρ => match F ρ with
  | some (.nx ρ') => G ρ'
  | o => o
def sNext : FS := fun ρ => some (.nx ρ)
def sRet (f : FE) : FS := fun ρ => bndS ρ (f ρ) fun r => match r with
  | .bor _ => none
  | r => some (.rt r)
def sRetV (i : Nat) : FS := fun ρ => match ρ[i]? with
  | some (some (.own ds)) => some (.rt (.own ds))
  | some (some (.fro d)) => some (.rt (.fro d))
  | _ => none
def sExpr (f : FE) : FS := fun ρ => bndS ρ (f ρ) fun _ => some (.nx ρ)
def sIf (t : FT) (F G : FS) : FS := fun ρ => bndS ρ (t ρ) fun b => if b then F ρ else G ρ
def sFrz (i : Nat) (F : FS) : FS := fun ρ => match ρ[i]? with
  | some (some (.own ds)) => F (ρ.set i (some (.fro (.lst ds))))
  | _ => F ρ
section
variable {X : Cx} {T : Tab} {W : WX} {st : Stmt} {rest : List Stmt} {e : Expr} {f : FE} {F G : FS} {pos : Pos}
theorem pds_set (i : Nat) {x : Str} {pos' : Pos} (hN : X.N.Nodup) (he : PD X T W e f) (hi : X.N[i]? = some x := by rfl) (hx : Loc X.env.scope x := by first | exact Or.inl rfl | exact Or.inr rfl) (hs : swapsWith e (some (.Name x pos')) pos.line X.env = pure false := by rfl)
    (hf : X.fn x = true ∨ X.env.scope.names.lookup x = some .local := by first | exact .inl rfl | exact .inr rfl) : PDS X T W (.Assign [.Name x pos'] e pos) (sSet i f) := by
  refine PS.imp (ps_set hN hi hx he hs hf) fun D σ H ⟨H0, Z0, env, Z, out, h, s, p⟩ => ?_
  refine tD_bndS h s p fun r v Z1 H1 hk e1 rr s1 => ?_
  cases r with
  | fro d =>
    cases hk
    exact p.nx _ rfl _ Z1 H1 (s1.setFro rr)
  | own ds =>
    cases hk
    obtain ⟨q, vs, rfl, b, hq, zq, rs⟩ := rr
    refine p.nx _ rfl _ Z1 H1 (s1.setOwn (ds := ds) ⟨q, vs, rfl, s.ext.hh.free b, hq, zq, rs⟩ fun j hj hσ => ?_)
    obtain ⟨q', o, e', h', _⟩ := s.ownAt hj hσ
    cases e'
    rw [h'] at b; cases b
  | bor ds => cases hk
theorem pdss_nil : PDSs X T W [] sNext := PSs.imp pss_nil fun D σ H ⟨H0, Z0, env, Z, out, h, s, p⟩ => by
  cases h
  exact p.nx _ rfl σ Z H s
theorem pdss_cons (h1 : PDS X T W st F) (h2 : PDSs X T W rest G) : PDSs X T W (st :: rest) (sSeq F G) := by
  refine PSs.imp (pss_cons h1 h2) fun D σ H ⟨H0, Z0, env, Z, out, h, s, p⟩ => ?_
  unfold sSeq at h
  split at h
  · rename_i ρ' hF
    exact ⟨H0, Z0, env, Z, _, hF, s, fun env' q σ' Z' H' s' => by cases q; exact ⟨H0, Z0, _, Z', out, h, s', p⟩, fun r q => (nomatch q), fun r q => (nomatch q), fun r q => (nomatch q), fun r _ _ q => (nomatch q)⟩
  · rename_i hne
    refine ⟨H0, Z0, env, Z, out, h, s, fun env' q σ' Z' H' s' => ?_, p.rt, p.bk, p.ct, p.xc⟩
    exact absurd h (by rw [q]; exact hne env')
theorem pdss_one (h1 : PDS X T W st F) : PDSs X T W [st] F := pss_one h1
theorem pds_ret (he : PD X T W e f) : PDS X T W (.Return (some e) pos) (sRet f) := by
  refine PS.imp (ps_ret he) fun D σ H ⟨H0, Z0, env, Z, out, h, s, p⟩ => ?_
  refine tD_bndS h s p fun r v Z1 H1 hk e1 rr s1 => ?_
  cases r with
  | fro d => cases hk; exact p.rt _ rfl v Z1 H1 s1.ext (rr.base s.ext.hh)
  | own d => cases hk; exact p.rt _ rfl v Z1 H1 s1.ext (rr.base s.ext.hh)
  | bor d => cases hk
theorem pds_retV (i : Nat) {x : Str} {pos' : Pos} (hN : X.N[i]? = some x := by rfl) (hv : Vis X.env.scope x := by first | exact Or.inl rfl | exact Or.inr (Or.inl rfl) | exact Or.inr (Or.inr rfl)) (hd : (x == ("__debug__" : Str)) = false := by decide)
    (hcd : (x == ("__classdict__" : Str)) = false := by decide) : PDS X T W (.Return (some (.Name x pos')) pos) (sRetV i) := by
  refine PS.imp (ps_ret (pe_var hN hv hd hcd)) fun D σ H ⟨H0, Z0, env, Z, out, h, s, p⟩ => ?_
  unfold sRetV at h
  split at h
  · rename_i ds he
    cases h
    obtain ⟨v, e1, r⟩ := s.cell i _ he
    exact ⟨v, e1, p.rt _ rfl v Z H s.ext r⟩
  · rename_i ds he
    cases h
    obtain ⟨v, e1, r⟩ := s.cell i _ he
    exact ⟨v, e1, p.rt _ rfl v Z H s.ext r⟩
  · cases h
theorem pds_if {t : FT} {a b : List Stmt} (ht : PDT X T W e t) (ha : PDSs X T W a F) (hb : PDSs X T W b G) : PDS X T W (.If e a b pos) (sIf t F G) := by
  refine PS.imp (ps_if ht ha hb) fun D σ H ⟨H0, Z0, env, Z, out, h, s, p⟩ => ?_
  refine tDT_bndS h s p fun b Z1 H1 hk e1 s1 => ?_
  cases b with
  | true => exact iteT ⟨H0, Z0, env, Z1, out, hk, s1, p⟩
  | false => exact iteF ⟨H0, Z0, env, Z1, out, hk, s1, p⟩
theorem frz_of {K : PySem.W.Frag} {i : Nat} {D : Ends} {σ : St} {H : Hp} (h : tDS K T W (sFrz i F) D σ H) : tDS K T W F D σ H := by
  obtain ⟨H0, Z0, env, Z, out, h, s, p⟩ := h
  unfold sFrz at h
  split at h
  · rename_i ds he
    obtain ⟨v, e1, q, vs, rfl, b, hq, zq, rs⟩ := s.cell i _ he
    have ex := s.ext.freeze b zq hq
    have lz : Le Z (upd Z q (.lst vs)) := Le.upd zq
    have hl : i < env.length := (List.getElem?_eq_some_iff.mp he).1
    have oi : isOwnC env[i]? := by rw [he]; exact True.intro
    refine ⟨H0, Z0, _, upd Z q (.lst vs), out, h, ⟨ex, by simp [s.len], fun j c hj => ?_, fun j k u hjk h1 h2 h3 h4 => ?_, fun j c' ds' v' hj h' => ?_⟩, p⟩
    rotate_right 1
    · by_cases e : i = j
      · subst e
        rw [List.getElem?_set_self hl] at hj; cases hj
      · rw [List.getElem?_set_ne e] at hj; exact s.me j _ _ _ hj h'
    · by_cases e : i = j
      · subst e
        rw [List.getElem?_set_self hl] at hj
        cases hj
        refine ⟨_, e1, ?_⟩
        show Rep K T _ (.lst ds) _
        simp only [Rep]
        exact ⟨q, vs, rfl, .of upd_same, rs.mono lz⟩
      · rw [List.getElem?_set_ne e] at hj
        obtain ⟨u, h1, h2⟩ := s.cell j c hj
        refine ⟨u, h1, ?_⟩
        cases c with
        | fro d => exact Rep.mono lz h2
        | own es =>
          obtain ⟨q2, ws, rfl, b2, hq2, zq2, rs2⟩ := h2
          have ne : q2 ≠ q := fun z => by
            subst z
            exact s.sep i j _ e oi (by rw [hj]; exact True.intro) e1 h1
          exact ⟨q2, ws, rfl, b2, hq2, by rw [upd_ne ne]; exact zq2, rs2.mono lz⟩
        | mk c es =>
          obtain ⟨q2, dx, ws, rfl, b2, hq2, zq2, rs2⟩ := h2
          have ne : q2 ≠ q := fun z => by
            subst z
            exact s.sep i j _ e oi (by rw [hj]; exact True.intro) e1 h1
          exact ⟨q2, dx, ws, rfl, b2, hq2, by rw [upd_ne ne]; exact zq2, rs2.mono lz⟩
    · have nf : ∀ m : Nat, isOwnC ((env.set i (some (.fro (.lst ds))))[m]?) → isOwnC env[m]? := fun m hm => by
        by_cases z : i = m
        · subst z; exact oi
        · rw [List.getElem?_set_ne z] at hm; exact hm
      exact s.sep j k u hjk (nf j h1) (nf k h2) h3 h4
  · exact ⟨H0, Z0, env, Z, out, h, s, p⟩
theorem pds_frz (i : Nat) (h : PDS X T W st F) : PDS X T W st (sFrz i F) := PS.imp h fun _ _ _ q => frz_of q
end
abbrev Fn := List Dt → M Rs
def spD (K : PySem.W.Frag) (T : Tab) (f : Fn) : Sp := fun vs H Q E => ∃ Z ds out, Le Z H ∧ Reps K T Z ds vs ∧ f ds = some out ∧
  (∀ r, out = .ok r → ∀ v Z' H', Ext4 Z H Z' H' → RRep K T H Z' H' v r → Q v H') ∧
  (∀ c es, out = .ex c es → ∀ cls d Z' H', Ext4 Z H Z' H' → XRep K T Z' H' cls d c es → E cls d H')
def outR : Option Out → M Rs
  | some (.rt r) => some (.ok r)
  | some (.nx _) => some (.ok (.fro .non))
  | some (.xc c ds _) => some (.ex c ds)
  | _ => none
def fnD (np nl : Nat) (F : FS) : Fn := fun args => if args.length = np then outR (F (args.map (fun d => some (.fro d)) ++ List.replicate nl none)) else none
theorem fnD_len {np nl : Nat} {F : FS} {ds : List Dt} {out : Ex Rs} (h : fnD np nl F ds = some out) : ds.length = np := by
  unfold fnD at h
  split at h
  · assumption
  · cases h
section
variable {K : PySem.W.Frag} {T : Tab}
theorem SI.start {Z H : Hp} {ds : List Dt} {vs : List V} {N : List Str} {nl : Nat} (zh : Le Z H) (r : Reps K T Z ds vs) (hn : N.length = ds.length + nl) : SI K T H (Z, 0) (ds.map (fun d => some (.fro d)) ++ List.replicate nl none) (start N vs) Z H := by
  have hl := r.length
  have cellq : ∀ (i : Nat) (c : Cel), (ds.map (fun d => some (Cel.fro d)) ++ List.replicate nl none)[i]? = some (some c) → ∃ d, c = .fro d ∧ ds[i]? = some d := fun i c h => by
    by_cases hi : i < ds.length
    · rw [List.getElem?_append_left (by simpa using hi), List.getElem?_map] at h
      cases e : ds[i]? with
      | none => rw [e] at h; cases h
      | some d => rw [e] at h; cases h; exact ⟨d, rfl, rfl⟩
    · rw [List.getElem?_append_right (by simpa using hi), List.getElem?_replicate] at h
      split at h <;> cases h
  refine ⟨Ext4.refl zh, ?_, fun i c h => ?_, fun i j v _ h1 _ _ _ => ?_, fun i c ds' v h _ => ?_⟩
  rotate_right 1
  · obtain ⟨d, e, _⟩ := cellq i _ h; cases e
  · unfold L2.start
    simp only [List.length_append, List.length_map, List.length_replicate]
    omega
  · obtain ⟨d, rfl, e⟩ := cellq i c h
    obtain ⟨v, h1, h2⟩ := r.get e
    refine ⟨v, ?_, h2⟩
    unfold L2.start
    have hi : i < vs.length := (List.getElem?_eq_some_iff.mp h1).1
    rw [List.getElem?_append_left (by simpa using hi), List.getElem?_map, h1]
    rfl
  · generalize hx : (ds.map (fun d => some (Cel.fro d)) ++ List.replicate nl none)[i]? = x at h1
    match x, h1 with
    | some (some (.own es)), _ => obtain ⟨d, e, _⟩ := cellq i _ hx; cases e
    | some (some (.mk c es)), _ => obtain ⟨d, e, _⟩ := cellq i _ hx; cases e
theorem spD_len {f : Fn} {n : Nat} (hn : ∀ ds out, f ds = some out → ds.length = n) : ∀ vs H Q E, spD K T f vs H Q E → vs.length = n := fun vs H Q E h => by
  obtain ⟨Z, ds, out, zh, r, hf, _⟩ := h
  rw [r.length]
  exact hn _ _ hf
theorem body_of {np nl : Nat} {F : FS} {N : List Str} {vs : List V} {H : Hp} {Q : VK} {E : XK} (hN : N.length = np + nl) (h : spD K T (fnD np nl F) vs H Q E) : tDS K T (fun cls d _ H => E cls d H) F { nx := fun _ H' => Q .non H', rt := Q } (start N vs) H := by
  obtain ⟨Z, ds, out, zh, r, hf, ok, ex⟩ := h
  have hl := fnD_len hf
  unfold fnD at hf
  rw [if_pos hl] at hf
  have s := SI.start (K := K) (T := T) (N := N) (nl := nl) zh r (by rw [hl]; exact hN)
  generalize hF : F (ds.map (fun d => some (.fro d)) ++ List.replicate nl none) = fo at hf
  match fo, hf with
  | some (.rt r), hf =>
    cases hf
    exact ⟨H, (Z, 0), _, Z, _, hF, s, fun _ q => (nomatch q), fun r' q v Z' H' e rr => by cases q; exact ok _ rfl v Z' H' e rr, fun _ q => (nomatch q), fun _ q => (nomatch q), fun _ _ _ q => (nomatch q)⟩
  | some (.nx ρ), hf =>
    cases hf
    exact ⟨H, (Z, 0), _, Z, _, hF, s, fun env' q σ' Z' H' s' => ok _ rfl _ Z' H' s'.ext (by simp only [RRep, Rep]), fun _ q => (nomatch q), fun _ q => (nomatch q), fun _ q => (nomatch q), fun _ _ _ q => (nomatch q)⟩
  | some (.xc c es ρ), hf =>
    cases hf
    exact ⟨H, (Z, 0), _, Z, _, hF, s, fun _ q => (nomatch q), fun _ q => (nomatch q), fun _ q => (nomatch q), fun _ q => (nomatch q), fun c' ds' env' q cls d σ' Z' H' s' x => by cases q; exact ex _ _ rfl cls d Z' H' s'.ext x⟩
  | some (.bk ρ), hf => cases hf
  | some (.ct ρ), hf => cases hf
  | none, hf => cases hf
theorem fnOk_of {P : Program} {w : World} {mg : Str → Option Value} {base : Heap} {x qual : Str} {params : Arguments} {body : List Stmt} {scope : Scope} {dvs : List V} {kws : List (Str × V)} {f : Addr} {fd : FuncData} {N ps : List Str} {k np nl : Nat} {F : FS}
    (Fd : FunD K x qual params body scope dvs kws f fd) (S : FnScope N ps scope) (hp : ps.length = np := by rfl) (hN : N.length = np + nl := by rfl)
    (hbody : ∀ (cdv : Value) (A : Around) (outer : List Env) (s : Shared) (H : Hp) (E : XK), Room k (A.deeper (envOfC qual scope s.heap.objs.size f cdv)) →
      Takes (cxOf (L2.CX P w) P w K mg base N qual scope f cdv A outer s H E) (fun cls d _ H => E cls d H) →
      PDSs (cxOf (L2.CX P w) P w K mg base N qual scope f cdv A outer s H E) T (fun cls d _ H => E cls d H) body F) : FnOk P w K mg base (L2.CX P w) (k + 1) f fd ps (spD K T (fnD np nl F)) := by
  refine Fd.ok S (fun vs H Q E h => (spD_len (fun _ _ => fnD_len) vs H Q E h).trans hp.symm) fun cdv A outer s H vs Q E hr h => ⟨_, hbody cdv A outer s H E hr (takes_of rfl rfl rfl rfl), body_of hN h⟩
end
end Pd
set_option maxHeartbeats 2000000
namespace Pd
open PySem PySem.Spec L2
open PyProof.Rows (envOfC)
abbrev FA := PEnv → M (List Dt)
structure PostA (K : PySem.W.Frag) (T : Tab) (Z H : Hp) (σ : St) (W : WX) (Q : List V → Hp → Prop) (out : Ex (List Dt)) : Prop where
  ok : ∀ ds, out = .ok ds → ∀ vs Z' H', Ext4 Z H Z' H' → Reps K T Z' ds vs → Q vs H'
  ex : ∀ c ds, out = .ex c ds → ∀ cls d Z' H', Ext4 Z H Z' H' → XRep K T Z' H' cls d c ds → W cls d σ H'
def tDA (K : PySem.W.Frag) (T : Tab) (W : WX) (f : FA) : TA := fun σ H Q =>
  ∃ H0 Z0 env Z out, f env = some out ∧ SI K T H0 Z0 env σ Z H ∧ PostA K T Z H σ W Q out
abbrev PDA (X : Cx) (T : Tab) (W : WX) (es : List Expr) (f : FA) : Prop := PA X es (tDA X.K T W f)
theorem PA.imp {X : Cx} {e : List Expr} {t t' : TA} (h : PA X e t) (i : ∀ σ H Q, t' σ H Q → t σ H Q) : PA X e t' := ⟨fun pos pins s σ H Q I q => h.run pos pins s σ H Q I (i σ H Q q)⟩
theorem PK.imp {X : Cx} {e : List Keyword} {t t' : TA} (h : PK X e t) (i : ∀ σ H Q, t' σ H Q → t σ H Q) : PK X e t' := ⟨fun pos pins s σ H Q I q => h.run pos pins s σ H Q I (i σ H Q q)⟩
def aNil : FA := fun _ => some (.ok [])
def aCons (f : FE) (fs : FA) : FA := fun ρ => bnd (f ρ) fun r => bnd (frz r) fun d => bnd (fs ρ) fun ds => some (.ok (d :: ds))
section
variable {X : Cx} {T : Tab} {W : WX} {e : Expr} {es : List Expr} {f : FE} {fs : FA}
theorem tCons_of {K : PySem.W.Frag} {σ : St} {H : Hp} {Q : List V → Hp → Prop} (h : tDA K T W (aCons f fs) σ H Q) : tCons (tD K T W f) (tDA K T W fs) σ H Q := by
  obtain ⟨H0, Z0, env, Z, out, h, s, p⟩ := h
  rcases bnd_cases h with ⟨c, ds, e1, e2⟩ | ⟨r, e1, e2⟩
  · exact ⟨H0, Z0, env, Z, _, e1, s, fun r q => (nomatch q), fun c' ds' q cls d Z' H' e x => by cases q; exact p.ex _ _ e2 cls d Z' H' e x⟩
  · refine ⟨H0, Z0, env, Z, _, e1, s, fun r' q v Z1 H1 x1 rr => ?_, fun c' ds' q => (nomatch q)⟩
    cases q
    rcases bnd_cases e2 with ⟨c, ds, q1, q2⟩ | ⟨d, q1, q2⟩
    · cases r <;> cases q1
    · obtain ⟨Z2, x2, _, rd⟩ := rr.freeze q1 x1
      rcases bnd_cases q2 with ⟨c, ds, q3, q4⟩ | ⟨ds, q3, q4⟩
      · exact ⟨H0, Z0, env, Z2, _, q3, s.step x2, fun r q => (nomatch q), fun c' ds' q cls d Z' H' e x => by cases q; exact p.ex _ _ q4 cls d Z' H' (x2.trans e) x⟩
      · refine ⟨H0, Z0, env, Z2, _, q3, s.step x2, fun ds' q vs Z' H' x3 rs => ?_, fun c' ds' q => (nomatch q)⟩
        cases q
        cases q4
        exact p.ok _ rfl _ Z' H' (x2.trans x3) (.cons (rd.mono x3.zz) rs)
theorem tNil_of {K : PySem.W.Frag} {σ : St} {H : Hp} {Q : List V → Hp → Prop} (h : tDA K T W aNil σ H Q) : tNil σ H Q := by
  obtain ⟨H0, Z0, env, Z, out, h, s, p⟩ := h
  cases h
  exact p.ok _ rfl [] Z H (Ext4.refl s.zh) .nil
theorem pda_nil : PDA X T W [] aNil := PA.imp pa_nil fun _ _ _ h => tNil_of h
theorem pda_cons (h : PD X T W e f) (t : PDA X T W es fs) (hs : starEach (e :: es) X.env = (false, eval e X.env) :: starEach es X.env := by rfl) : PDA X T W (e :: es) (aCons f fs) := PA.imp (pa_cons h t hs) fun _ _ _ h => tCons_of h
end
def CallV (X : Cx) (T : Tab) (W : WX) (f : Value) (n : Nat) (ks : List Str) (fn : List Dt → List Dt → M Rs) : Prop :=
  ∀ (pins : List (Addr × Obj)) (s : Shared) (σ : St) (H Z : Hp) (us ws : List Value) (vs zs : List V) (ds es : List Dt) (out : Ex Rs) (Q : VK), Inv X pins σ H s → Le Z H → Vals vs us → Vals zs ws → Reps X.K T Z ds vs → Reps X.K T Z es zs →
    ds.length = n → es.length = ks.length → fn ds es = some out → Post X.K T Z H σ W Q out → wpAny (model X.prog X.w) X.A (call f us (ks.zip ws)) (EP X pins σ Q) X.xe s
structure Conv (K : PySem.W.Frag) (T : Tab) (fd : FuncData) (ps : List Str) (n : Nat) (ks : List Str) (gD : List Dt → List Dt → List Dt) : Prop where
  ex : ∃ g gV, KBn K fd ps n ks g gV ∧ ∀ (Z : Hp) ds vs es zs, ds.length = n → es.length = ks.length → Reps K T Z ds vs → Reps K T Z es zs → Reps K T Z (gD ds es) (gV vs zs)
section
variable {X : Cx} {T : Tab} {W : WX} {k n : Nat} {f : Addr} {fd : FuncData} {ps ks : List Str} {fn : Fn} {gD : List Dt → List Dt → List Dt}
theorem callV_fn (F : FnOk X.prog X.w X.K X.mg X.base (L2.CX X.prog X.w) k f fd ps (spD X.K T fn)) (hr : Room k X.A) (hb : Conv X.K T fd ps n ks gD) (tk : Takes X W) : CallV X T W (.ref f) n ks fun ds es => fn (gD ds es) := by
  intro pins s σ H Z us ws vs zs ds es out Q I zh ru rw' rd re l1 l2 hf p
  obtain ⟨g, gV, B, G⟩ := hb.ex
  have r2 := G Z ds vs es zs l1 l2 rd re
  have hsp : spD X.K T fn (gV vs zs) H Q (WE W σ) := ⟨Z, gD ds es, out, zh, r2, hf, p.ok, fun c es' e cls d Z' H' x xr => p.ex c es' e cls d Z' H' x xr⟩
  have v2 := B.rel ru rw'
  have e1 : us.length = n := by rw [← ru.length, rd.length]; exact l1
  have e2 : ws.length = ks.length := by rw [← rw'.length, re.length]; exact l2
  refine wpAny_call (codeAny_mono (F.run X.A X.stack s H ⟨us, ks.zip ws⟩ (g us ws) (gV vs zs) Q (WE W σ) hr I.env0 (B.to s us ws I.kIn e1 e2) v2 hsp) fun r s' hq => ?_)
  cases r with
  | error e => exact passAt tk σ pins H s e s' I hq
  | ok fl =>
    cases fl with
    | ret u => exact I.after hq
    | next => exact False.elim hq
    | brk => exact False.elim hq
    | cont => exact False.elim hq
end
structure ClsD (K : PySem.W.Frag) (T : Tab) (c : Nat) : Prop where
  cls : Cls K (T.ca c)
  no : ∀ f ∈ T.fl c, NoAttr K (T.ca c) f
  nd : (T.fl c).Nodup
  sz : (T.fl c).length < 1000
abbrev FI := List Dt → M (List Dt)
def mkD (c : Nat) (f : FI) : Fn := fun ds => bnd (f ds) fun fs => some (.ok (.fro (.ins c fs)))
def spI (K : PySem.W.Frag) (T : Tab) (c : Nat) (f : FI) : Sp := fun vs H Q E => ∃ x dx as ds Z H00 out, vs = .ref x :: as ∧ H = upd (upd H00 dx (.own x)) x (.ins (T.ca c) dx []) ∧ H00 x = none ∧ H00 dx = none ∧ dx ≠ x ∧ Le Z H00 ∧ Reps K T Z ds as ∧ f ds = some out ∧
  (∀ fs, out = .ok fs → ∀ Z' H', Ext4 Z H00 Z' H' → Rep K T Z' (.ins c fs) (.ref x) → Q .non H') ∧
  (∀ c es, out = .ex c es → ∀ cls d Z' H', Ext4 Z H00 Z' H' → XRep K T Z' H' cls d c es → E cls d H')
theorem putF_zip {f : Str} {y : V} : ∀ {ns : List Str} {vs : List V}, ns.Nodup → ns[vs.length]? = some f → putF f y (ns.zip vs) = ns.zip (vs ++ [y])
  | [], vs, _, h => by simp at h
  | n :: ns, [], nd, h => by
    simp only [List.length_nil, List.getElem?_cons_zero, Option.some.injEq] at h
    subst h
    simp [putF]
  | n :: ns, v :: vs, nd, h => by
    have h' : ns[vs.length]? = some f := by simpa using h
    have ne : n ≠ f := fun e => (List.nodup_cons.mp nd).1 (e ▸ List.mem_of_getElem? h')
    rw [List.zip_cons_cons]
    show (if n = f then _ else (n, v) :: putF f y (ns.zip vs)) = _
    rw [if_neg ne, putF_zip (List.nodup_cons.mp nd).2 h', List.cons_append, List.zip_cons_cons]
theorem lookup_zip {f : Str} {v : V} : ∀ {ns : List Str} {vs : List V} {j : Nat}, ns.Nodup → ns[j]? = some f → vs[j]? = some v → (ns.zip vs).lookup f = some v
  | [], _, _, _, h, _ => by simp at h
  | _ :: _, [], _, _, _, h => by simp at h
  | n :: ns, w :: vs, 0, _, h1, h2 => by
    simp only [List.getElem?_cons_zero, Option.some.injEq] at h1 h2
    subst h1 h2
    simp [List.lookup]
  | n :: ns, w :: vs, j + 1, nd, h1, h2 => by
    have h1' : ns[j]? = some f := by simpa using h1
    have ne : f ≠ n := fun e => (List.nodup_cons.mp nd).1 (e ▸ List.mem_of_getElem? h1')
    rw [List.zip_cons_cons]
    have hb : (f == n) = false := beq_eq_false_iff_ne.mpr ne
    simp only [List.lookup, hb]
    exact lookup_zip (List.nodup_cons.mp nd).2 h1' (by simpa using h2)
theorem lookup_no {f : Str} : ∀ {ns : List Str} {vs : List V}, f ∉ ns → (ns.zip vs).lookup f = none
  | [], _, _ => rfl
  | _ :: _, [], _ => rfl
  | n :: ns, w :: vs, h => by
    have ne : f ≠ n := fun e => h (by simp [e])
    have hb : (f == n) = false := beq_eq_false_iff_ne.mpr ne
    rw [List.zip_cons_cons]
    simp only [List.lookup, hb]
    exact lookup_no fun z => h (List.mem_cons_of_mem _ z)
section
variable {X : Cx} {T : Tab} {W : WX} {k n c : Nat} {f : Addr} {fd : FuncData} {ps ks : List Str} {fi : FI} {gD : List Dt → List Dt → List Dt}
structure ConvI (K : PySem.W.Frag) (T : Tab) (fd : FuncData) (ps : List Str) (n : Nat) (ks : List Str) (gD : List Dt → List Dt → List Dt) : Prop where
  ex : ∃ g gV, KBn K fd ps (n + 1) ks g gV ∧ ∀ (Z : Hp) x ds vs es zs, ds.length = n → es.length = ks.length → Reps K T Z ds vs → Reps K T Z es zs → ∃ as, gV (.ref x :: vs) zs = .ref x :: as ∧ Reps K T Z (gD ds es) as
theorem callV_make (M : Mk X.K (T.ca c) f) (F : FnOk X.prog X.w X.K X.mg X.base (L2.CX X.prog X.w) k f fd ps (spI X.K T c fi)) (hr : Room (k + 1) X.A) (hb : ConvI X.K T fd ps n ks gD) (tk : Takes X W) :
    CallV X T W (.ref (T.ca c)) n ks fun ds es => mkD c fi (gD ds es) := by
  intro pins s σ H Z us ws vs zs ds es out Q I zh ru rw' rd re l1 l2 hf p
  obtain ⟨g, gV, B, G⟩ := hb.ex
  have e1 : us.length = n := by rw [← ru.length, rd.length]; exact l1
  have e2 : ws.length = ks.length := by rw [← rw'.length, re.length]; exact l2
  obtain ⟨as, ga, ra⟩ := G Z (s.heap.objs.size + 1) ds vs es zs l1 l2 rd re
  have I2 := Inv.made (C := T.ca c) I
  have r1 : Vals (V.ref (s.heap.objs.size + 1) :: vs) (Value.ref (s.heap.objs.size + 1) :: us) := .cons rfl ru
  have r2 := B.rel r1 rw'
  have f1 : H (s.heap.objs.size + 1) = none := I.hok.fresh (Nat.le_succ _)
  have f2 : H s.heap.objs.size = none := I.hok.fresh (Nat.le_refl _)
  have hsp : spI X.K T c fi (gV (.ref (s.heap.objs.size + 1) :: vs) zs) (upd (upd H s.heap.objs.size (.own (s.heap.objs.size + 1))) (s.heap.objs.size + 1) (.ins (T.ca c) s.heap.objs.size [])) (fun v H' => v = .non ∧ Q (.ref (s.heap.objs.size + 1)) H') (WE W σ) := by
    unfold mkD at hf
    rcases bnd_cases hf with ⟨c', ds', q1, q2⟩ | ⟨fs, q1, q2⟩
    · exact ⟨_, _, as, gD ds es, Z, H, _, ga, rfl, f1, f2, Nat.ne_of_lt (Nat.lt_succ_self _), zh, ra, q1, fun fs q => (nomatch q), fun c2 es2 q cls d Z' H' x xr => by cases q; exact p.ex _ _ q2 cls d Z' H' x xr⟩
    · refine ⟨_, _, as, gD ds es, Z, H, _, ga, rfl, f1, f2, Nat.ne_of_lt (Nat.lt_succ_self _), zh, ra, q1, fun fs' q Z' H' x xr => ?_, fun c2 es2 q => (nomatch q)⟩
      cases q
      cases q2
      exact ⟨rfl, p.ok _ rfl _ Z' H' x xr⟩
  refine wpAny_call (make_map (f := f) I.kIn M.makes M.init (beq_iff_eq.mp M.fn) (codeAny_mono (F.run _ X.stack _ _ ⟨Value.ref (s.heap.objs.size + 1) :: us, ks.zip ws⟩ (g (Value.ref (s.heap.objs.size + 1) :: us) ws) _ _ (WE W σ) (hr.make (T.ca c) us (ks.zip ws))
    (I2.env0.make (T.ca c) us (ks.zip ws)) (B.to _ (Value.ref (s.heap.objs.size + 1) :: us) ws I2.kIn (by rw [List.length_cons, e1]) e2) r2 hsp) fun r s' hq' => ?_))
  cases r with
  | error e => exact passAt tk σ pins _ _ e s' I2 hq'
  | ok fl =>
    cases fl with
    | ret u =>
      obtain ⟨v, H', I3, rv, ev, q3⟩ := I2.after hq'
      subst ev
      exact ⟨rv, ⟨V.ref (s.heap.objs.size + 1), H', I3, rfl, q3⟩⟩
    | next => exact False.elim hq'
    | brk => exact False.elim hq'
    | cont => exact False.elim hq'
end
def eCall (n m : Nat) (fn : List Dt → List Dt → M Rs) (fa fk : FA) : FE := fun ρ => bnd (fa ρ) fun ds => bnd (fk ρ) fun es => if ds.length = n ∧ es.length = m then fn ds es else none
section
variable {X : Cx} {T : Tab} {W : WX} {n : Nat} {f : Addr} {ks : List Str} {fn : List Dt → List Dt → M Rs} {x : Str} {p pos : Pos} {e : Expr} {es : List Expr} {kws : List Keyword} {fa fk : FA}
theorem args_run {pins : List (Addr × Obj)} {s : Shared} {σ : St} {H : Hp} {Q : VK} {C : Value} (hc : CallV X T W C n ks fn) (I : Inv X pins σ H s) (h : tD X.K T W (eCall n ks.length fn fa fk) σ H Q) :
    tDA X.K T W fa σ H fun vs H1 => tDA X.K T W fk σ H1 fun zs H2 => ∀ (s2 : Shared) (us ws : List Value), Inv X pins σ H2 s2 → Vals vs us → Vals zs ws → wpAny (model X.prog X.w) X.A (call C us (ks.zip ws)) (EP X pins σ Q) X.xe s2 := by
  obtain ⟨H0, Z0, env, Z, out, h, s0, po⟩ := h
  unfold eCall at h
  rcases bnd_cases h with ⟨c, ds, e1, e2⟩ | ⟨ds, e1, e2⟩
  · exact ⟨H0, Z0, env, Z, _, e1, s0, fun r q => (nomatch q), fun c' ds' q cls d Z' H' e x => by cases q; exact po.ex _ _ e2 cls d Z' H' e x⟩
  · refine ⟨H0, Z0, env, Z, _, e1, s0, fun ds' q vs Z1 H1 x1 rs => ?_, fun c' ds' q => (nomatch q)⟩
    cases q
    rcases bnd_cases e2 with ⟨c, es', e3, e4⟩ | ⟨es', e3, e4⟩
    · exact ⟨H0, Z0, env, Z1, _, e3, s0.step x1, fun r q => (nomatch q), fun c' ds' q cls d Z' H' e x => by cases q; exact po.ex _ _ e4 cls d Z' H' (x1.trans e) x⟩
    · refine ⟨H0, Z0, env, Z1, _, e3, s0.step x1, fun ds' q zs Z2 H2 x2 re s2 us ws I2 ru rw' => ?_, fun c' ds' q => (nomatch q)⟩
      cases q
      split at e4
      · rename_i hl
        exact hc pins s2 σ H2 Z2 us ws vs zs ds es' out Q I2 x2.zh ru rw' (rs.mono x2.zz) re hl.1 hl.2 e4 (po.step (x1.trans x2))
      · cases e4
theorem pd_callV {u : Addr} (hc : CallV X T W (.ref u) n [] fn) (hk : PySem.W.keepIn X.K (.ref u) = true) (hg : Gl X x) (hm : X.mg x = some (.ref u)) (ha : PDA X T W (e :: es) fa)
    (hdb : (x == ("__debug__" : Str)) = false := by decide) (he : starEach (e :: es) X.env = (false, eval e X.env) :: starEach es X.env := by rfl) (hpl : (backTo pos (starEach es X.env)).any (·.1) = false := by rfl) :
    PD X T W (.Call (.Name x p) (e :: es) [] pos) (eCall n 0 fn fa aNil) := by
  refine ⟨fun pins s σ H Q I h => ?_⟩
  refine wpAny_Call_Name_kw (ld_glob I hg hm ?_ hdb)
  refine PySem.W.callWith_K (h₀ := X.base) I.ok.mod.kin hk (thn (ha.run pos pins s σ H _ I (args_run hc I h)) fun us s1 ⟨vs, H1, I1, r, q⟩ => ⟨I1.kIn, ?_⟩) he hpl
  exact tNil_of q s1 us [] I1 r .nil
end
def gFld (m : Nat → Option Nat) : G1 := fun r => match r with
  | .fro (.ins c ds) => match m c with
    | some j => match ds[j]? with
      | some d => some (.ok (.fro d))
      | none => none
    | none => none
  | _ => none
section
variable {X : Cx} {T : Tab} {W : WX} {e o : Expr} {fa fb : FE} {f : Str} {pos pos' : Pos}
theorem pd_fld (m : Nat → Option Nat) (hm : ∀ c j, m c = some j → ClsD X.K T c ∧ (T.fl c)[j]? = some f) (he : PD X T W e fa) (hb : attributeBase e f X.env (eval e X.env) = eval e X.env := by rfl) : PD X T W (.Attribute e f pos) (e1 (gFld m) fa) := by
  refine PE.imp (pe_fld he hb) fun σ H Q ⟨H0, Z0, env, Z, out, h, s, p⟩ => ?_
  refine tD_bnd h s p fun r v Z1 H1 hk e1 rr s1 p1 => ?_
  unfold gFld at hk
  split at hk
  · split at hk
    · rename_i c ds j hj
      split at hk
      · rename_i d hd
        cases hk
        obtain ⟨C, hf⟩ := hm _ _ hj
        simp only [RRep, Rep] at rr
        obtain ⟨q, dx, vs, rfl, h1, h2, h3⟩ := rr
        obtain ⟨w, h4, h5⟩ := h3.get hd
        exact ⟨q, _, dx, _, w, rfl, e1.zh _ _ h1, C.cls, C.no _ (List.mem_of_getElem? hf), lookup_zip C.nd hf h4, p1.fro e1.zh h5⟩
      · cases hk
    · cases hk
  · cases hk
def sFld (i c j : Nat) (f : FE) : FS := fun ρ => bndS ρ (f ρ) fun r => bndS ρ (frz r) fun d => match ρ[i]? with
  | some (some (.mk c' ds)) => if c' = c ∧ ds.length = j then some (.nx (ρ.set i (some (.mk c (ds ++ [d]))))) else none
  | _ => none
theorem pds_fld {i c j : Nat} {x : Str} {xp : Pos} (C : ClsD X.K T c) (hj : (T.fl c)[j]? = some f) (hv : PD X T W e fa) (hN : X.N[i]? = some x := by rfl) (hvis : Vis X.env.scope x := by first | exact Or.inl rfl | exact Or.inr (Or.inl rfl) | exact Or.inr (Or.inr rfl))
    (hd : (x == ("__debug__" : Str)) = false := by decide) (hcd : (x == ("__classdict__" : Str)) = false := by decide) (hs : swapsWith e (some (.Attribute (.Name x xp) f pos')) pos.line X.env = pure false := by rfl) :
    PDS X T W (.Assign [.Attribute (.Name x xp) f pos'] e pos) (sFld i c j fa) := by
  refine PS.imp (ps_fld (pe_var hN hvis hd hcd) hv hs) fun D σ H ⟨H0, Z0, env, Z, out, h, s, p⟩ => ?_
  refine tD_bndSF h s p fun d v Z1 H1 hk e1 rd s1 => ?_
  split at hk
  · rename_i c' ds he
    split at hk
    · rename_i hc
      obtain ⟨rfl, hl⟩ := hc
      cases hk
      obtain ⟨w, h1, q, dx, vs, rfl, b, hq, zq, rs⟩ := s1.cell i _ he
      have lv : vs.length = j := by rw [rs.length]; exact hl
      refine ⟨_, h1, q, _, dx, _, rfl, hq, C.cls, C.no _ (List.mem_of_getElem? hj), Nat.lt_of_le_of_lt (by rw [List.length_zip]; exact Nat.min_le_left _ _) C.sz, ?_⟩
      rw [putF_zip C.nd (by rw [lv]; exact hj)]
      have e2 : Ext4 H0 H0 H0 H0 := Ext4.refl (Le.refl _)
      have oi : isOwnC env[i]? := by rw [he]; exact True.intro
      have hl2 : i < env.length := (List.getElem?_eq_some_iff.mp he).1
      refine p.nx _ rfl _ Z1 _ ⟨⟨fun a o h => ?_, s1.ext.zz, fun a o h => ?_, s1.ext.st⟩, by simp [s1.len], fun m cl hm' => ?_, fun m k u hmk a1 a2 a3 a4 => ?_, fun m c2 ds2 v2 hm' h' => ?_⟩
      rotate_right 1
      · by_cases z : i = m
        · subst z
          exact s1.me i _ _ _ he h'
        · rw [List.getElem?_set_ne z] at hm'; exact s1.me m _ _ _ hm' h'
      · have ne : a ≠ q := fun z => by subst z; rw [b] at h; cases h
        rw [upd_ne ne]; exact s1.ext.hh _ _ h
      · have ne : a ≠ q := fun z => by subst z; rw [zq] at h; cases h
        rw [upd_ne ne]; exact s1.ext.zh _ _ h
      · by_cases z : i = m
        · subst z
          rw [List.getElem?_set_self hl2] at hm'
          cases hm'
          exact ⟨_, h1, q, dx, _, rfl, b, upd_same, zq, rs.append (.cons rd .nil)⟩
        · rw [List.getElem?_set_ne z] at hm'
          obtain ⟨u, g1, g2⟩ := s1.cell m cl hm'
          refine ⟨u, g1, ?_⟩
          cases cl with
          | fro d => exact g2
          | own es =>
            obtain ⟨q2, ws, rfl, b2, hq2, zq2, rs2⟩ := g2
            have ne : q2 ≠ q := fun y => by
              subst y
              exact s1.sep i m _ z oi (by rw [hm']; exact True.intro) h1 g1
            exact ⟨q2, ws, rfl, b2, by rw [upd_ne ne]; exact hq2, zq2, rs2⟩
          | mk c es =>
            obtain ⟨q2, dx2, ws, rfl, b2, hq2, zq2, rs2⟩ := g2
            have ne : q2 ≠ q := fun y => by
              subst y
              exact s1.sep i m _ z oi (by rw [hm']; exact True.intro) h1 g1
            exact ⟨q2, dx2, ws, rfl, b2, by rw [upd_ne ne]; exact hq2, zq2, rs2⟩
      · have nf : ∀ r : Nat, isOwnC ((env.set i (some (.mk c' (ds ++ [d]))))[r]?) → isOwnC env[r]? := fun r hr => by
          by_cases z : i = r
          · subst z; exact oi
          · rw [List.getElem?_set_ne z] at hr; exact hr
        exact s1.sep m k u hmk (nf m a1) (nf k a2) a3 a4
    · cases hk
  · cases hk
end
def outI (c nf : Nat) : Option Out → M (List Dt)
  | some (.nx ρ) => match (ρ[0]? : Option (Option Cel)) with
    | some (some (.mk c' fs)) => if c' = c ∧ fs.length = nf then some (.ok fs) else none
    | _ => none
  | some (.xc c ds _) => some (.ex c ds)
  | _ => none
def fnI (c nf np nl : Nat) (F : FS) : FI := fun args => if args.length = np then outI c nf (F (some (.mk c []) :: (args.map (fun d => some (.fro d)) ++ List.replicate nl none))) else none
section
variable {K : PySem.W.Frag} {T : Tab}
theorem initOk_of {P : Program} {w : World} {mg : Str → Option Value} {base : Heap} {x qual : Str} {params : Arguments} {body : List Stmt} {scope : Scope} {dvs : List V} {kws : List (Str × V)} {f : Addr} {fd : FuncData} {N ps : List Str} {k c nf np nl : Nat} {F : FS}
    (Fd : FunD K x qual params body scope dvs kws f fd) (S : FnScope N ps scope) (hfl : (T.fl c).length = nf) (hp : ps.length = np + 1 := by rfl) (hN : N.length = np + 1 + nl := by rfl)
    (hbody : ∀ (cdv : Value) (A : Around) (outer : List Env) (s : Shared) (H : Hp) (E : XK), Room k (A.deeper (envOfC qual scope s.heap.objs.size f cdv)) →
      Takes (cxOf (L2.CX P w) P w K mg base N qual scope f cdv A outer s H E) (fun cls d _ H => E cls d H) →
      PDSs (cxOf (L2.CX P w) P w K mg base N qual scope f cdv A outer s H E) T (fun cls d _ H => E cls d H) body F) : FnOk P w K mg base (L2.CX P w) (k + 1) f fd ps (spI K T c (fnI c nf np nl F)) := by
  refine Fd.ok S (fun vs H Q E h => ?_) fun cdv A outer s H vs Q E hr h => ⟨_, hbody cdv A outer s H E hr (takes_of rfl rfl rfl rfl), ?_⟩
  · obtain ⟨x, dx, as, ds, Z, H00, out, rfl, _, _, _, _, _, rd, hf, _⟩ := h
    have hl : ds.length = np := by
      unfold fnI at hf
      split at hf
      · assumption
      · cases hf
    rw [List.length_cons, rd.length, hl, hp]
  · obtain ⟨x, dx, as, ds, Z, H00, out, rfl, rfl, nx, ndx, ne, zh, rd, hf, ok, ex⟩ := h
    have hl : ds.length = np := by
      unfold fnI at hf
      split at hf
      · assumption
      · cases hf
    unfold fnI at hf
    rw [if_pos hl] at hf
    have ndx' : (upd H00 dx (.own x)) x = none := by rw [upd_ne (Ne.symm ne)]; exact nx
    have e4 : Ext4 Z H00 Z (upd (upd H00 dx (.own x)) x (.ins (T.ca c) dx [])) := (Ext4.new zh ndx).trans (Ext4.new (zh.trans (Le.upd ndx)) ndx')
    have s : SI K T H00 (Z, x) (some (.mk c []) :: (ds.map (fun d => some (.fro d)) ++ List.replicate nl none)) (start N (.ref x :: as)) Z (upd (upd H00 dx (.own x)) x (.ins (T.ca c) dx [])) := by
      have s0 := SI.start (K := K) (T := T) (Z := Z) (H := H00) (ds := ds) (vs := as) (N := N.tail) (nl := nl) zh rd (by rw [List.length_tail, hN, hl]; omega)
      have hst : start N (.ref x :: as) = some (.ref x) :: start N.tail as := by
        unfold L2.start
        have hl2 := rd.length
        rw [List.map_cons, List.cons_append, List.length_cons, List.length_tail]
        congr 3
        omega
      rw [hst]
      refine ⟨e4, by simp [s0.len], fun i cl hi => ?_, fun i j v hij h1 h2 h3 h4 => ?_, fun i c' ds' v h h' => ?_⟩
      rotate_right 1
      · cases i with
        | zero => simpa using h'.symm
        | succ i =>
          have h1 := h
          simp only [List.getElem?_cons_succ] at h1 h'
          exact absurd (s0.me i _ _ _ h1 h') (by
            obtain ⟨v0, g1, q, dx', vs, e1, b, hq, _⟩ := s0.cell i _ h1
            intro _
            rw [b] at hq; cases hq)
      · cases i with
        | zero =>
          simp only [List.getElem?_cons_zero, Option.some.injEq] at hi
          cases hi
          refine ⟨.ref x, rfl, x, dx, [], rfl, nx, ?_, zh.free nx, .nil⟩
          rw [upd_same]
          simp
        | succ i =>
          obtain ⟨v, g1, g2⟩ := s0.cell i cl (by simpa using hi)
          exact ⟨v, by simpa using g1, CRep.step g2 e4⟩
      · have no : ∀ m : Nat, ¬ isOwnC ((ds.map (fun d => some (Cel.fro d)) ++ List.replicate nl none)[m]?) := fun m hm => by
          by_cases hi : m < ds.length
          · rw [List.getElem?_append_left (by simpa using hi), List.getElem?_map, List.getElem?_eq_getElem hi] at hm
            exact hm
          · rw [List.getElem?_append_right (by simpa using hi), List.getElem?_replicate] at hm
            split at hm <;> exact hm
        cases i with
        | succ i => exact no i (by simpa using h1)
        | zero =>
          cases j with
          | zero => exact hij rfl
          | succ j => exact no j (by simpa using h2)
    generalize hF : F (some (.mk c []) :: (ds.map (fun d => some (.fro d)) ++ List.replicate nl none)) = fo at hf
    revert hf
    rcases fo with _ | (ρ | r | ρ | ρ | ⟨c2, es2, ρ⟩)
    · intro hf; cases hf
    · intro hf
      refine ⟨H00, (Z, x), _, Z, _, hF, s, fun env' q σ' Z' H' s' => ?_, fun _ q => (nomatch q), fun _ q => (nomatch q), fun _ q => (nomatch q), fun _ _ _ q => (nomatch q)⟩
      cases q
      unfold outI at hf
      dsimp only at hf
      split at hf
      · rename_i c' fs h0
        split at hf
        · rename_i hc
          obtain ⟨rfl, hn⟩ := hc
          cases hf
          obtain ⟨v, g1, q, dx', vs, rfl, b, hq, zq, rs⟩ := s'.cell 0 _ h0
          have e5 := s'.ext.freeze b zq hq
          have ex' := s'.me 0 _ _ _ h0 g1
          cases ex'
          refine ok _ rfl _ H' e5 ?_
          simp only [Rep]
          refine ⟨_, dx', vs, rfl, upd_same, ?_, rs.mono (Le.upd zq)⟩
          rw [rs.length, hn, hfl]
        · cases hf
      · cases hf
    · intro hf; cases hf
    · intro hf; cases hf
    · intro hf; cases hf
    · intro hf
      cases hf
      exact ⟨H00, (Z, x), _, Z, _, hF, s, fun _ q => (nomatch q), fun _ q => (nomatch q), fun _ q => (nomatch q), fun _ q => (nomatch q), fun c' ds' env' q cls d σ' Z' H' s' x => by cases q; exact ex _ _ rfl cls d Z' H' s'.ext x⟩
end
end Pd
set_option maxHeartbeats 2000000
namespace Pd
open PySem PySem.Spec L2
open PyProof.Rows (envOfC)
def LINE : Nat := 16777216
theorem LINE_eq : LINE = sizeLine := by decide
theorem line_of {n : Nat} (h : n ≤ LINE) : n ≤ sizeLine := by rw [← LINE_eq]; exact h
def asL : Rs → Option (List Dt)
  | .fro (.lst ds) => some ds
  | .own ds => some ds
  | .bor ds => some ds
  | _ => none
def asO : Rs → Option (List Dt)
  | .own ds => some ds
  | .bor ds => some ds
  | _ => none
@[simp] theorem asL_fro (ds : List Dt) : asL (.fro (.lst ds)) = some ds := rfl
@[simp] theorem asL_own (ds : List Dt) : asL (.own ds) = some ds := rfl
@[simp] theorem asL_bor (ds : List Dt) : asL (.bor ds) = some ds := rfl
@[simp] theorem asO_own (ds : List Dt) : asO (.own ds) = some ds := rfl
@[simp] theorem asO_bor (ds : List Dt) : asO (.bor ds) = some ds := rfl
section
variable {K : PySem.W.Frag} {T : Tab} {B Z H : Hp} {v : V} {r : Rs} {ds : List Dt}
theorem RRep.list (h : RRep K T B Z H v r) (zh : Le Z H) (e : asL r = some ds) : ∃ p vs, v = .ref p ∧ SqL K H p vs ∧ Reps K T Z ds vs := by
  unfold asL at e
  split at e <;> cases e
  · simp only [RRep, Rep] at h
    obtain ⟨p, vs, rfl, h1, h2⟩ := h
    exact ⟨p, vs, rfl, zh.seqL h1, h2⟩
  · obtain ⟨p, vs, rfl, _, h1, _, h2⟩ := h
    exact ⟨p, vs, rfl, .of h1, h2⟩
  · obtain ⟨p, vs, rfl, h1, h2⟩ := h
    exact ⟨p, vs, rfl, .of h1, h2⟩
theorem RRep.lst (h : RRep K T B Z H v r) (e : asO r = some ds) : ∃ p vs, v = .ref p ∧ H p = some (.lst vs) ∧ Reps K T Z ds vs := by
  unfold asO at e
  split at e <;> cases e
  · obtain ⟨p, vs, rfl, _, h1, _, h2⟩ := h
    exact ⟨p, vs, rfl, h1, h2⟩
  · obtain ⟨p, vs, rfl, h1, h2⟩ := h
    exact ⟨p, vs, rfl, h1, h2⟩
theorem Reps.at {vs : List V} {i : Int} {d : Dt} (h : Reps K T Z ds vs) (e : atI ds i = some d) : ∃ w, atI vs i = some w ∧ Rep K T Z d w := by
  unfold atI at e ⊢
  rw [h.length]
  cases q : ixN ds.length i with
  | none => rw [q] at e; cases e
  | some j =>
    rw [q] at e
    exact h.get e
theorem Reps.cut {vs : List V} {lo hi : Option Int} (h : Reps K T Z ds vs) : Reps K T Z ((ds.drop (HT.sIx ds.length 0 lo)).take (HT.sIx ds.length ds.length hi - HT.sIx ds.length 0 lo)) (cutV vs lo hi) := by
  unfold cutV
  rw [h.length]
  exact (h.drop _).take _
end
def cutD (ds : List Dt) (lo hi : Option Int) : List Dt := (ds.drop (HT.sIx ds.length 0 lo)).take (HT.sIx ds.length ds.length hi - HT.sIx ds.length 0 lo)
def gIx : G2 := fun x y => match y with
  | .fro (.int i) => match x with
    | .fro (.tup ds) => match atI ds i with
      | some d => some (.ok (.fro d))
      | none => none
    | .fro (.str z) => if z.length ≤ LINE then match atI z.cps.toList i with
      | some c => some (.ok (.fro (.str ⟨#[c]⟩)))
      | none => none else none
    | x => match asL x with
      | some ds => match atI ds i with
        | some d => some (.ok (.fro d))
        | none => none
      | none => none
  | _ => none
section
variable {K : PySem.W.Frag} {T : Tab} {W : WX}
theorem o2_ix : Op2 K T W (rIx K) gIx := fun σ B Z H x y v w out Q zh r1 r2 hg p => by
  unfold gIx at hg
  split at hg
  · simp only [RRep, Rep] at r2
    subst r2
    split at hg
    · split at hg
      · rename_i d hd
        cases hg
        simp only [RRep, Rep] at r1
        obtain ⟨q, vs, rfl, h1, h2⟩ := r1
        obtain ⟨u, h3, h4⟩ := h2.at hd
        exact .inr (.inl ⟨q, vs, _, u, rfl, rfl, zh.seqT h1, h3, p.fro zh h4⟩)
      · cases hg
    · split at hg
      · rename_i hz
        split at hg
        · rename_i c hc
          cases hg
          simp only [RRep, Rep] at r1
          subst r1
          exact .inr (.inr ⟨_, _, c, rfl, rfl, line_of hz, hc, p.fro zh (by simp only [Rep])⟩)
        · cases hg
      · cases hg
    · split at hg
      · rename_i ds hds
        split at hg
        · rename_i d hd
          cases hg
          obtain ⟨q, vs, rfl, h1, h2⟩ := r1.list zh hds
          obtain ⟨u, h3, h4⟩ := h2.at hd
          exact .inl ⟨q, vs, _, u, rfl, rfl, h1, h3, p.fro zh h4⟩
        · cases hg
      · cases hg
  · cases hg
variable {X : Cx} {a b e : Expr} {fa fb f : FE} {es : List Expr} {fs : FA} {pos : Pos} {x1 : _}
theorem pd_item (ha : PD X T W a fa) (hb : PD X T W b fb) (hs : PlainIx b := by exact fun _ _ => rfl) : PD X T W (.Subscript a b pos) (e2 gIx fa fb) := pd_ix ix_seq o2_ix ha hb hs
end
def eTup (fs : FA) : FE := fun ρ => bnd (fs ρ) fun ds => if ds.length ≤ LINE then some (.ok (.fro (.tup ds))) else none
def eLst (fs : FA) : FE := fun ρ => bnd (fs ρ) fun ds => if ds.length ≤ LINE then some (.ok (.own ds)) else none
section
variable {K : PySem.W.Frag} {T : Tab} {W : WX} {H0 Z H : Hp} {Z0 : Hx} {env : PEnv} {σ : St} {Q : VK} {out : Ex Rs}
theorem tDA_bnd {fa : FA} {k : List Dt → M Rs} {G : List V → Hp → Prop} (h : bnd (fa env) k = some out) (s : SI K T H0 Z0 env σ Z H) (p : Post K T Z H σ W Q out)
    (go : ∀ ds vs Z1 H1, k ds = some out → Ext4 Z H Z1 H1 → Reps K T Z1 ds vs → SI K T H0 Z0 env σ Z1 H1 → Post K T Z1 H1 σ W Q out → G vs H1) : tDA K T W fa σ H G := by
  rcases bnd_cases h with ⟨c, ds, e1, e2⟩ | ⟨r, e1, e2⟩
  · exact ⟨H0, Z0, env, Z, _, e1, s, fun r q => (nomatch q), fun c' ds' q cls d Z' H' e x => by cases q; exact p.ex _ _ e2 cls d Z' H' e x⟩
  · refine ⟨H0, Z0, env, Z, _, e1, s, fun r' q v Z' H' e rr => ?_, fun c' ds' q => (nomatch q)⟩
    cases q
    exact go r v Z' H' e2 e rr (s.step e) (p.step e)
variable {X : Cx} {a b e : Expr} {fa fb f : FE} {es : List Expr} {fs : FA} {pos : Pos}
theorem pd_tup {k : Nat} (h : PDA X T W es fs) : PD X T W (.Tuple es k pos) (eTup fs) := by
  refine PE.imp (pe_tup h) fun σ H Q ⟨H0, Z0, env, Z, out, h, s, p⟩ => ?_
  refine tDA_bnd h s p fun ds vs Z1 H1 hk e1 rs s1 p1 => ?_
  split at hk
  · rename_i hl
    cases hk
    exact ⟨by rw [rs.length]; exact line_of hl, fun q hq => p1.tup e1.zh hq rs⟩
  · cases hk
theorem pd_lst (h : PDA X T W es fs) : PD X T W (.List es pos) (eLst fs) := by
  refine PE.imp (pe_lst h) fun σ H Q ⟨H0, Z0, env, Z, out, h, s, p⟩ => ?_
  refine tDA_bnd h s p fun ds vs Z1 H1 hk e1 rs s1 p1 => ?_
  split at hk
  · rename_i hl
    cases hk
    exact ⟨by rw [rs.length]; exact line_of hl, fun q hq => p1.own e1.zh hq rs⟩
  · cases hk
end
abbrev FO := PEnv → M (Option Int)
structure PostO (K : PySem.W.Frag) (T : Tab) (Z H : Hp) (σ : St) (W : WX) (Q : Option Int → Hp → Prop) (out : Ex (Option Int)) : Prop where
  ok : ∀ r, out = .ok r → ∀ Z' H', Ext4 Z H Z' H' → Q r H'
  ex : ∀ c ds, out = .ex c ds → ∀ cls d Z' H', Ext4 Z H Z' H' → XRep K T Z' H' cls d c ds → W cls d σ H'
def tDO (K : PySem.W.Frag) (T : Tab) (W : WX) (f : FO) : TO := fun σ H Q => ∃ H0 Z0 env Z out, f env = some out ∧ SI K T H0 Z0 env σ Z H ∧ PostO K T Z H σ W Q out
abbrev PDO (X : Cx) (T : Tab) (W : WX) (e : Option Expr) (f : FO) : Prop := PO X e (tDO X.K T W f)
def oNone : FO := fun _ => some (.ok none)
def asI : Rs → M Int
  | .fro (.int i) => some (.ok i)
  | _ => none
@[simp] theorem asI_int (i : Int) : asI (.fro (.int i)) = some (.ok i) := rfl
def oSome (f : FE) : FO := fun ρ => bnd (f ρ) fun r => bnd (asI r) fun i => some (.ok (some i))
def gSl : Rs → Option Int → Option Int → M Rs := fun x lo hi => match x with
  | .fro (.tup ds) => some (.ok (.fro (.tup (cutD ds lo hi))))
  | x => match asL x with
    | some ds => some (.ok (.own (cutD ds lo hi)))
    | none => none
def eSl (f : FE) (lo hi : FO) : FE := fun ρ => bnd (f ρ) fun x => bnd (lo ρ) fun l => bnd (hi ρ) fun h => gSl x l h
section
variable {X : Cx} {T : Tab} {W : WX} {e : Expr} {f : FE} {lo hi : Option Expr} {fl fh : FO} {pos p2 : Pos}
theorem pdo_none : PDO X T W none oNone := ⟨fun pins s σ H Q I ⟨H0, Z0, env, Z, out, h, s0, p⟩ => by
  cases h
  exact po_none.run pins s σ H Q I (p.ok _ rfl Z H (Ext4.refl s0.zh))⟩
theorem pdo_some (he : PD X T W e f) : PDO X T W (some e) (oSome f) := ⟨fun pins s σ H Q I ⟨H0, Z0, env, Z, out, h, s0, p⟩ => by
  refine (po_some he).run pins s σ H Q I ?_
  show tD X.K T W f σ H _
  unfold oSome at h
  rcases bnd_cases h with ⟨c, ds, e1, e2⟩ | ⟨r, e1, e2⟩
  · exact ⟨H0, Z0, env, Z, _, e1, s0, fun r q => (nomatch q), fun c' ds' q cls d Z' H' e x => by cases q; exact p.ex _ _ e2 cls d Z' H' e x⟩
  · refine ⟨H0, Z0, env, Z, _, e1, s0, fun r' q v Z' H' x rr => ?_, fun c' ds' q => (nomatch q)⟩
    cases q
    unfold asI at e2
    split at e2
    · cases e2
      simp only [RRep, Rep] at rr
      exact ⟨_, rr, p.ok _ rfl Z' H' x⟩
    · cases e2⟩
theorem tDO_bnd {K : PySem.W.Frag} {H0 Z H : Hp} {Z0 : Hx} {env : PEnv} {σ : St} {Q : VK} {out : Ex Rs} {fa : FO} {k : Option Int → M Rs} {G : Option Int → Hp → Prop} (h : bnd (fa env) k = some out) (s : SI K T H0 Z0 env σ Z H) (p : Post K T Z H σ W Q out)
    (go : ∀ o Z1 H1, k o = some out → Ext4 Z H Z1 H1 → SI K T H0 Z0 env σ Z1 H1 → Post K T Z1 H1 σ W Q out → G o H1) : tDO K T W fa σ H G := by
  rcases bnd_cases h with ⟨c, ds, e1, e2⟩ | ⟨r, e1, e2⟩
  · exact ⟨H0, Z0, env, Z, _, e1, s, fun r q => (nomatch q), fun c' ds' q cls d Z' H' e x => by cases q; exact p.ex _ _ e2 cls d Z' H' e x⟩
  · refine ⟨H0, Z0, env, Z, _, e1, s, fun r' q Z' H' e => ?_, fun c' ds' q => (nomatch q)⟩
    cases q
    exact go r Z' H' e2 e (s.step e) (p.step e)
theorem pd_slice (he : PD X T W e f) (hl : PDO X T W lo fl) (hh : PDO X T W hi fh) : PD X T W (.Subscript e (.Slice lo hi none p2) pos) (eSl f fl fh) := by
  refine PE.imp (pe_slice (SlR.or sl_list sl_tupA) he hl hh) fun σ H Q ⟨H0, Z0, env, Z, out, h, s, p⟩ => ?_
  refine tD_bnd h s p fun x v Z1 H1 hk e1 rr s1 p1 => ?_
  refine tDO_bnd hk s1 p1 fun l Z2 H2 hk2 e2 s2 p2 => ?_
  refine tDO_bnd hk2 s2 p2 fun u Z3 H3 hk3 e3 s3 p3 => ?_
  have rr3 := (rr.step e2).step e3
  have zh := e3.zh
  unfold gSl at hk3
  split at hk3
  · rename_i ds
    cases hk3
    have rr4 := rr3
    simp only [RRep, Rep] at rr3
    obtain ⟨q, vs, rfl, h1, h2⟩ := rr3
    refine .inr ⟨q, vs, rfl, zh.seqT h1, fun hf => ?_, fun _ p' hp' => p3.tup zh hp' h2.cut⟩
    rw [h2.length] at hf
    have hc : cutD ds l u = ds := by unfold cutD; rw [hf.1, hf.2, List.drop_zero, Nat.sub_zero]; exact List.take_of_length_le (Nat.le_refl _)
    rw [hc] at p3
    exact p3.fro zh rr4
  · split at hk3
    · rename_i ds hds
      cases hk3
      obtain ⟨q, vs, rfl, h1, h2⟩ := rr3.list zh hds
      exact .inl ⟨q, vs, rfl, h1, fun p' hp' => p3.own zh hp' h2.cut⟩
    · cases hk3
end
def gCat : G2 := fun x y => match asL x, asL y with
  | some a, some b => if a.length + b.length ≤ LINE then some (.ok (.own (a ++ b))) else none
  | _, _ => none
section
variable {K : PySem.W.Frag} {T : Tab} {W : WX}
def rCatL (K : PySem.W.Frag) : R2 := fun x y H Q => ∃ l b xs zs, x = .ref l ∧ y = .ref b ∧ SqL K H l xs ∧ SqL K H b zs ∧ xs.length + zs.length ≤ sizeLine ∧ ∀ p, H p = none → Q (.ref p) (upd H p (.lst (xs ++ zs)))
theorem op_catL {X : Cx} : OpR X (binaryOp .Add) (rCatL X.K) := by
  intro pins s σ H x y v u Q I rx ry h
  obtain ⟨l, b, xs, zs, rfl, rfl, hH, hB, hz, q⟩ := h
  cases rx
  cases ry
  obtain ⟨its, r, p1, z1⟩ := I.list hH
  obtain ⟨its2, r2, p2, z2⟩ := I.list hB
  obtain ⟨⟨cls, dd, data, sl⟩, ho, hc, n, hd⟩ := id p1.isList
  obtain ⟨⟨cls2, dd2, data2, sl2⟩, ho2, hc2, n2, hd2⟩ := id p2.isList
  simp only at hc hd hc2 hd2
  subst hc hd hc2 hd2
  have l1 := r.length
  have l2 := r2.length
  refine PySem.concat_meets ⟨_, ho, rfl⟩ ⟨_, ho2, rfl⟩ PySem.noFill_list_add PySem.seq_list_add PySem.F.slot_list_add PySem.F.entry_list_add (PySem.F.args_list_add_2 _ _) (PyProof.Rows.list_addW l b its.toArray its2.toArray n n2 dd dd2 sl sl2 (by rw [List.size_toArray, List.size_toArray]; omega)) ⟨ho, ho2, ?_⟩
  have ea : its.toArray ++ its2.toArray = (its ++ its2).toArray := by simp
  rw [ea]
  exact ⟨.ref _, _, I.lnew (t' := s.toks) (r.append r2) (by rw [List.length_append]; omega), rfl, q _ I.fresh⟩
theorem o2_cat : Op2 K T W (rCatL K) gCat := fun σ B Z H x y v w out Q zh r1 r2 hg p => by
  unfold gCat at hg
  split at hg
  · rename_i a b ha hb
    split at hg
    · rename_i hl
      cases hg
      obtain ⟨q1, vs, rfl, h1, s1⟩ := r1.list zh ha
      obtain ⟨q2, ws, rfl, h2, s2⟩ := r2.list zh hb
      exact ⟨q1, q2, vs, ws, rfl, rfl, h1, h2, by rw [s1.length, s2.length]; exact line_of hl, fun q hq => p.own zh hq (s1.append s2)⟩
    · cases hg
  · cases hg
end
end Pd
set_option maxHeartbeats 2000000
namespace Pd
open PySem PySem.Spec L2
open PyProof.Rows (envOfC)
def OpC1 (K : PySem.W.Frag) (T : Tab) (W : WX) (r : List V → Hp → VK → Prop) (g : G1) : Prop := ∀ (σ : St) (B Z H : Hp) (x : Rs) (v : V) (out : Ex Rs) (Q : VK), Le Z H → RRep K T B Z H v x → g x = some out → Post K T Z H σ W Q out → r [v] H Q
def OpC2 (K : PySem.W.Frag) (T : Tab) (W : WX) (r : List V → Hp → VK → Prop) (g : G2) : Prop := ∀ (σ : St) (B Z H : Hp) (x y : Rs) (v w : V) (out : Ex Rs) (Q : VK), Le Z H → RRep K T B Z H v x → RRep K T B Z H w y → g x y = some out → Post K T Z H σ W Q out → r [v, w] H Q
section
variable {X : Cx} {T : Tab} {W : WX} {x : Str} {p pos : Pos} {a b : Expr} {fa fb : FE} {id : String} {r : List V → Hp → VK → Prop} {g : G1} {g2 : G2}
theorem tC1_of {K : PySem.W.Frag} (h : OpC1 K T W r g) {σ : St} {H : Hp} {Q : VK} (q : tD K T W (e1 g fa) σ H Q) : tCB r (tCons (tD K T W fa) tNil) σ H Q := by
  obtain ⟨H0, Z0, env, Z, out, hf, s, p⟩ := q
  refine tD_bnd hf s p fun x v Z1 H1 hk e1 r1 s1 p1 => ?_
  exact h σ H Z1 H1 x v out Q e1.zh r1 hk p1
theorem tC2_of {K : PySem.W.Frag} (h : OpC2 K T W r g2) {σ : St} {H : Hp} {Q : VK} (q : tD K T W (e2 g2 fa fb) σ H Q) : tCB r (tCons (tD K T W fa) (tCons (tD K T W fb) tNil)) σ H Q := by
  obtain ⟨H0, Z0, env, Z, out, hf, s, p⟩ := q
  refine tD_bnd hf s p fun x v Z1 H1 hk e1 r1 s1 p1 => ?_
  refine tD_bnd hk s1 p1 fun y w Z2 H2 hk2 e2 r2 s2 p2 => ?_
  exact h σ H Z2 H2 x y v w out Q e2.zh (r1.step e2) (r2.base e1.hh) hk2 p2
theorem pd_bi1 (hc : CallR X (.builtin id) r) (h : OpC1 X.K T W r g) (hg : Gl X x) (hm : X.mg x = none) (hv : bootBuiltins x = some (.builtin id)) (ha : PD X T W a fa) (hn : x ≠ "__name__" := by decide) (hdb : (x == ("__debug__" : Str)) = false := by decide)
    (hs : starEach (a :: []) X.env = (false, eval a X.env) :: starEach [] X.env := by rfl) (hpl : (backTo pos (starEach [] X.env)).any (·.1) = false := by rfl) : PD X T W (.Call (.Name x p) [a] [] pos) (e1 g fa) :=
  PE.imp (pe_callB hc hg hm hv (pa_cons ha pa_nil hs) hn hdb hs hpl) fun _ _ _ q => tC1_of h q
theorem pd_ty1 {T' : String} (hc : CallR X (.type T') r) (h : OpC1 X.K T W r g) (hg : Gl X x) (hm : X.mg x = none) (hv : bootBuiltins x = some (.type T')) (ha : PD X T W a fa) (hn : x ≠ "__name__" := by decide) (hdb : (x == ("__debug__" : Str)) = false := by decide)
    (hs : starEach (a :: []) X.env = (false, eval a X.env) :: starEach [] X.env := by rfl) (hpl : (backTo pos (starEach [] X.env)).any (·.1) = false := by rfl) : PD X T W (.Call (.Name x p) [a] [] pos) (e1 g fa) :=
  PE.imp (pe_callTy hc hg hm hv (pa_cons ha pa_nil hs) hn hdb hs hpl) fun _ _ _ q => tC1_of h q
theorem pd_bi2 (hc : CallR X (.builtin id) r) (h : OpC2 X.K T W r g2) (hg : Gl X x) (hm : X.mg x = none) (hv : bootBuiltins x = some (.builtin id)) (ha : PD X T W a fa) (hb : PD X T W b fb) (hn : x ≠ "__name__" := by decide) (hdb : (x == ("__debug__" : Str)) = false := by decide)
    (hs : starEach (a :: [b]) X.env = (false, eval a X.env) :: starEach [b] X.env := by rfl) (hs2 : starEach (b :: []) X.env = (false, eval b X.env) :: starEach [] X.env := by rfl) (hpl : (backTo pos (starEach [b] X.env)).any (·.1) = false := by rfl) : PD X T W (.Call (.Name x p) [a, b] [] pos) (e2 g2 fa fb) :=
  PE.imp (pe_callB hc hg hm hv (pa_cons ha (pa_cons hb pa_nil hs2) hs) hn hdb hs hpl) fun _ _ _ q => tC2_of h q
theorem pd_bf2 (hc : CallR X (.builtin id) r) (h : OpC2 X.K T W r g2) (hg : Gl X x) (hm : X.mg x = some (.builtin id)) (ha : PD X T W a fa) (hb : PD X T W b fb) (hdb : (x == ("__debug__" : Str)) = false := by decide)
    (hs : starEach (a :: [b]) X.env = (false, eval a X.env) :: starEach [b] X.env := by rfl) (hs2 : starEach (b :: []) X.env = (false, eval b X.env) :: starEach [] X.env := by rfl) (hpl : (backTo pos (starEach [b] X.env)).any (·.1) = false := by rfl) : PD X T W (.Call (.Name x p) [a, b] [] pos) (e2 g2 fa fb) :=
  PE.imp (pe_callBfun hc hg hm (pa_cons ha (pa_cons hb pa_nil hs2) hs) hdb hs hpl) fun _ _ _ q => tC2_of h q
end
def gLen : G1 := fun x => match x with
  | .fro (.tup ds) => vI ds.length
  | .fro (.str z) => if z.length ≤ LINE then vI z.length else none
  | x => match asL x with
    | some ds => vI ds.length
    | none => none
def gAbs : G1
  | .fro (.int i) => vI (if i < 0 then -i else i)
  | _ => none
def gInt : G1
  | .fro (.int i) => vI i
  | .fro (.bl k) => vI (if k then 1 else 0)
  | _ => none
def gMax : G2 := gII fun i j => vI (if j > i then j else i)
def gMin : G2 := gII fun i j => vI (if j < i then j else i)
def gGcd : G2 := gII fun i j => vI ((Nat.gcd i.natAbs j.natAbs : Nat) : Int)
def gList : G1 := fun x => match x with
  | .fro (.tup ds) => some (.ok (.own ds))
  | x => match asL x with
    | some ds => some (.ok (.own ds))
    | none => none
def gTuple : G1 := fun x => match x with
  | .fro (.tup ds) => some (.ok (.fro (.tup ds)))
  | x => match asL x with
    | some ds => some (.ok (.fro (.tup ds)))
    | none => none
section
variable {X : Cx} {T : Tab} {W : WX} {p pos : Pos} {a b : Expr} {fa fb : FE}
theorem oc_len : OpC1 X.K T W (fun xs H Q => ∃ x n, xs = [x] ∧ LenV X.K x H n ∧ Q (.int n) H) gLen := fun σ B Z H x v out Q zh r1 hg p => by
  unfold gLen at hg
  split at hg
  · cases hg
    simp only [RRep, Rep] at r1
    obtain ⟨q, vs, rfl, h1, h2⟩ := r1
    refine ⟨_, vs.length, rfl, .inr ⟨vs, zh.seqT h1, rfl⟩, ?_⟩
    rw [h2.length]
    exact p.fro zh (by simp only [Rep])
  · split at hg
    · rename_i hz
      cases hg
      simp only [RRep, Rep] at r1
      subst r1
      exact ⟨_, _, rfl, ⟨line_of hz, rfl⟩, p.fro zh (by simp only [Rep])⟩
    · cases hg
  · split at hg
    · rename_i ds hds
      cases hg
      obtain ⟨q, vs, rfl, h1, h2⟩ := r1.list zh hds
      refine ⟨_, vs.length, rfl, .inl ⟨vs, h1, rfl⟩, ?_⟩
      rw [h2.length]
      exact p.fro zh (by simp only [Rep])
    · cases hg
theorem oc_abs : OpC1 X.K T W (fun xs H Q => ∃ i, xs = [.int i] ∧ Q (.int (if i < 0 then -i else i)) H) gAbs := fun σ B Z H x v out Q zh r1 hg p => by
  unfold gAbs at hg
  split at hg
  · cases hg
    simp only [RRep, Rep] at r1
    subst r1
    exact ⟨_, rfl, p.fro zh (by simp only [Rep])⟩
  · cases hg
theorem oc_int : OpC1 X.K T W (fun xs H Q => (∃ i, xs = [.int i] ∧ Q (.int i) H) ∨ ∃ k, xs = [.bl k] ∧ Q (.int (if k then 1 else 0)) H) gInt := fun σ B Z H x v out Q zh r1 hg p => by
  unfold gInt at hg
  split at hg
  · cases hg
    simp only [RRep, Rep] at r1
    subst r1
    exact .inl ⟨_, rfl, p.fro zh (by simp only [Rep])⟩
  · cases hg
    simp only [RRep, Rep] at r1
    subst r1
    exact .inr ⟨_, rfl, p.fro zh (by simp only [Rep])⟩
  · cases hg
theorem oc_II {g : Int → Int → Int} : OpC2 X.K T W (fun xs H Q => ∃ i j, xs = [.int i, .int j] ∧ Q (.int (g i j)) H) (gII fun i j => vI (g i j)) := fun σ B Z H x y v w out Q zh r1 r2 hg p => by
  obtain ⟨i, j, rfl, rfl, e⟩ := gII_inv hg
  cases e
  simp only [RRep, Rep] at r1 r2
  subst r1 r2
  exact ⟨i, j, rfl, p.fro zh (by simp only [Rep])⟩
theorem oc_list : OpC1 X.K T W (fun xs H Q => ∃ p ys, xs = [.ref p] ∧ (SqL X.K H p ys ∨ SqT X.K H p ys) ∧ ∀ l, H l = none → Q (.ref l) (upd H l (.lst ys))) gList := fun σ B Z H x v out Q zh r1 hg p => by
  unfold gList at hg
  split at hg
  · cases hg
    simp only [RRep, Rep] at r1
    obtain ⟨q, vs, rfl, h1, h2⟩ := r1
    exact ⟨q, vs, rfl, .inr (zh.seqT h1), fun l hl => p.own zh hl h2⟩
  · split at hg
    · rename_i ds hds
      cases hg
      obtain ⟨q, vs, rfl, h1, h2⟩ := r1.list zh hds
      exact ⟨q, vs, rfl, .inl h1, fun l hl => p.own zh hl h2⟩
    · cases hg
theorem oc_tuple : OpC1 X.K T W (fun xs H Q => ∃ p ys, xs = [.ref p] ∧ ((SqL X.K H p ys ∧ ∀ l, H l = none → Q (.ref l) (upd H l (.tup ys))) ∨ (SqT X.K H p ys ∧ Q (.ref p) H))) gTuple := fun σ B Z H x v out Q zh r1 hg p => by
  unfold gTuple at hg
  split at hg
  · cases hg
    have r1' := r1
    simp only [RRep, Rep] at r1
    obtain ⟨q, vs, rfl, h1, h2⟩ := r1
    exact ⟨q, vs, rfl, .inr ⟨zh.seqT h1, p.fro zh r1'⟩⟩
  · split at hg
    · rename_i ds hds
      cases hg
      obtain ⟨q, vs, rfl, h1, h2⟩ := r1.list zh hds
      exact ⟨q, vs, rfl, .inl ⟨h1, fun l hl => p.tup zh hl h2⟩⟩
    · cases hg
theorem pd_len (hm : X.mg "len" = none) (ha : PD X T W a fa) (hg : Gl X "len" := by rfl) (hs : starEach (a :: []) X.env = (false, eval a X.env) :: starEach [] X.env := by rfl) (hpl : (backTo pos (starEach [] X.env)).any (·.1) = false := by rfl) : PD X T W (.Call (.Name "len" p) [a] [] pos) (e1 gLen fa) :=
  pd_bi1 call_len oc_len hg hm boot_len ha (hs := hs) (hpl := hpl)
theorem pd_abs (hm : X.mg "abs" = none) (ha : PD X T W a fa) (hg : Gl X "abs" := by rfl) (hs : starEach (a :: []) X.env = (false, eval a X.env) :: starEach [] X.env := by rfl) (hpl : (backTo pos (starEach [] X.env)).any (·.1) = false := by rfl) : PD X T W (.Call (.Name "abs" p) [a] [] pos) (e1 gAbs fa) :=
  pd_bi1 call_abs oc_abs hg hm (by decide +kernel) ha (hs := hs) (hpl := hpl)
theorem pd_intf (hm : X.mg "int" = none) (ha : PD X T W a fa) (hg : Gl X "int" := by rfl) (hs : starEach (a :: []) X.env = (false, eval a X.env) :: starEach [] X.env := by rfl) (hpl : (backTo pos (starEach [] X.env)).any (·.1) = false := by rfl) : PD X T W (.Call (.Name "int" p) [a] [] pos) (e1 gInt fa) :=
  pd_ty1 call_int1 oc_int hg hm (by decide +kernel) ha (hs := hs) (hpl := hpl)
theorem pd_listf (hm : X.mg "list" = none) (ha : PD X T W a fa) (hg : Gl X "list" := by rfl) (hs : starEach (a :: []) X.env = (false, eval a X.env) :: starEach [] X.env := by rfl) (hpl : (backTo pos (starEach [] X.env)).any (·.1) = false := by rfl) : PD X T W (.Call (.Name "list" p) [a] [] pos) (e1 gList fa) :=
  pd_ty1 call_list_of oc_list hg hm (by decide +kernel) ha (hs := hs) (hpl := hpl)
theorem pd_tuplef (hm : X.mg "tuple" = none) (ha : PD X T W a fa) (hg : Gl X "tuple" := by rfl) (hs : starEach (a :: []) X.env = (false, eval a X.env) :: starEach [] X.env := by rfl) (hpl : (backTo pos (starEach [] X.env)).any (·.1) = false := by rfl) : PD X T W (.Call (.Name "tuple" p) [a] [] pos) (e1 gTuple fa) :=
  pd_ty1 call_tuple_of oc_tuple hg hm (by decide +kernel) ha (hs := hs) (hpl := hpl)
theorem pd_max (hc : X.calm = true) (hm : X.mg "max" = none) (ha : PD X T W a fa) (hb : PD X T W b fb) (hg : Gl X "max" := by rfl) (hs : starEach (a :: [b]) X.env = (false, eval a X.env) :: starEach [b] X.env := by rfl) (hs2 : starEach (b :: []) X.env = (false, eval b X.env) :: starEach [] X.env := by rfl)
    (hpl : (backTo pos (starEach [b] X.env)).any (·.1) = false := by rfl) : PD X T W (.Call (.Name "max" p) [a, b] [] pos) (e2 gMax fa fb) := pd_bi2 (call_max2 hc) oc_II hg hm (by decide +kernel) ha hb (hs := hs) (hs2 := hs2) (hpl := hpl)
theorem pd_gcd (hm : X.mg "gcd" = some (.builtin "math.gcd")) (ha : PD X T W a fa) (hb : PD X T W b fb) (hg : Gl X "gcd" := by rfl) (hs : starEach (a :: [b]) X.env = (false, eval a X.env) :: starEach [b] X.env := by rfl) (hs2 : starEach (b :: []) X.env = (false, eval b X.env) :: starEach [] X.env := by rfl)
    (hpl : (backTo pos (starEach [b] X.env)).any (·.1) = false := by rfl) : PD X T W (.Call (.Name "gcd" p) [a, b] [] pos) (e2 gGcd fa fb) := pd_bf2 cr_gcd oc_II hg hm ha hb (hs := hs) (hs2 := hs2) (hpl := hpl)
end
inductive CR where
  | ty (n : String) | own (c : Nat)
  deriving DecidableEq
def CR.val (T : Tab) : CR → Value
  | .ty n => .type n
  | .own c => .ref (T.ca c)
def CR.v (T : Tab) : CR → V
  | .ty n => .ty n
  | .own c => .ref (T.ca c)
def typD : Dt → Option CR
  | .non => some (.ty "NoneType") | .bl _ => some (.ty "bool") | .int _ => some (.ty "int") | .str _ => some (.ty "str") | .tup _ => some (.ty "tuple") | .lst _ => some (.ty "list") | .ins c _ => some (.own c) | .ty _ => none
def typR : Rs → Option CR
  | .fro d => typD d
  | _ => some (.ty "list")
def gIsi (ans : CR → Option Bool) : G1 := fun r => match typR r with
  | some t => match ans t with
    | some b => vB b
    | none => none
  | none => none
structure IsiC (K : PySem.W.Frag) (T : Tab) (c : Nat) : Prop where
  cls : Cls K (T.ca c)
  ha : PySem.W.findIn K (.ref (T.ca c)) "__class__" = some (some (.builtin "object.__class__"))
  hn : PySem.W.specialIn K (.builtin "object.__class__") "__get__" = some (some (.builtin "getset_descriptor.__get__"))
  htk : PySem.W.takesIn K (.builtin "object.__class__") = some true
  hm : PySem.W.mroIn K (T.ca c) (.type "object") = some true
theorem sqL_ty {K : PySem.W.Frag} {H : Hp} {p : Addr} {vs : List V} (h : SqL K H p vs) : TyX K H (.ref p) (.type "list") := by
  rcases h with (h | ⟨o, h⟩) | ⟨o, its, n, hk, hc, _⟩
  · exact .base (.lst h)
  · exact .base (.frz h)
  · exact .kList hk hc
theorem sqT_ty {K : PySem.W.Frag} {H : Hp} {p : Addr} {vs : List V} (h : SqT K H p vs) : TyX K H (.ref p) (.type "tuple") := by
  rcases h with (h | ⟨o, h⟩) | ⟨o, its, n, hk, hc, _⟩
  · exact .base (.tup h)
  · exact .fTuple h
  · exact .kTuple hk hc
theorem typR_ok {K : PySem.W.Frag} {T : Tab} {B Z H : Hp} {r : Rs} {v : V} {t : CR} (hI : ∀ c, t = .own c → IsiC K T c) (zh : Le Z H) (h : RRep K T B Z H v r) (e : typR r = some t) : TyX K H v (t.val T) := by
  cases r with
  | own ds => cases e; obtain ⟨p, vs, rfl, _, h1, _⟩ := h; exact sqL_ty (.of h1)
  | bor ds => cases e; obtain ⟨p, vs, rfl, h1, _⟩ := h; exact sqL_ty (.of h1)
  | fro d =>
    cases d <;> simp only [typR, typD, Option.some.injEq, reduceCtorEq] at e <;> subst e <;> simp only [RRep, Rep] at h
    · subst h; exact .base .non
    · subst h; exact .base (.bl _)
    · subst h; exact .base (.int _)
    · subst h; exact .base (.str _)
    · obtain ⟨p, vs, rfl, h1, _⟩ := h; exact sqT_ty (zh.seqT h1)
    · obtain ⟨p, vs, rfl, h1, _⟩ := h; exact sqL_ty (zh.seqL h1)
    · obtain ⟨p, dx, vs, rfl, h1, _⟩ := h
      have I := hI _ rfl
      exact .base (.ins (zh _ _ h1) I.cls I.ha I.hn I.htk I.hm)
section
variable {X : Cx} {T : Tab} {W : WX} {p pos : Pos} {a b : Expr} {fa : FE}
theorem pd_isi (cr : CR) {ans : CR → Option Bool} (hA : ∀ t r, ans t = some r → PySem.W.kitOne X.K (t.val T) (cr.val T) = some r) (hI : ∀ c r, ans (.own c) = some r → IsiC X.K T c) (hm : X.mg "isinstance" = none) (ha : PD X T W a fa) (hb : PE X b (tC (cr.v T)))
    (hg : Gl X "isinstance" := by rfl) (hs : starEach (a :: [b]) X.env = (false, eval a X.env) :: starEach [b] X.env := by rfl) (hs2 : starEach (b :: []) X.env = (false, eval b X.env) :: starEach [] X.env := by rfl)
    (hpl : (backTo pos (starEach [b] X.env)).any (·.1) = false := by rfl) : PD X T W (.Call (.Name "isinstance" p) [a, b] [] pos) (e1 (gIsi ans) fa) := by
  refine PE.imp (pe_callB call_isi hg hm PyProof.Rows.boot_isinstance (pa_cons ha (pa_cons hb pa_nil hs2) hs) (by decide) (by decide) hs hpl) fun σ H Q ⟨H0, Z0, env, Z, out, hf, s, p⟩ => ?_
  refine tD_bnd hf s p fun x v Z1 H1 hk e1 r1 s1 p1 => ?_
  show rIsi X.K [v, cr.v T] H1 Q
  unfold gIsi at hk
  split at hk
  · rename_i t ht
    split at hk
    · rename_i r hr
      cases hk
      refine ⟨v, cr.v T, t.val T, cr.val T, r, rfl, ?_, typR_ok (fun c e => hI c r (by rw [← e]; exact hr)) e1.zh r1 ht, hA t r hr, p1.fro e1.zh (by simp only [Rep])⟩
      cases cr with
      | ty n => exact .ty n
      | own c => exact .own _
    · cases hk
  · cases hk
def ansB (n : String) (cs : List Nat) : CR → Option Bool
  | .ty m => kitB m n
  | .own c => if cs.contains c then some false else none
end
theorem SI.change {K : PySem.W.Frag} {T : Tab} {H0 Z1 H1 : Hp} {Z0 : Hx} {env : PEnv} {σ : St} {i : Nat} {ds es : List Dt} {ws : List V} {q : Addr} (s : SI K T H0 Z0 env σ Z1 H1) (he : env[i]? = some (some (.own ds))) (hσ : σ[i]? = some (some (.ref q)))
    (rs : Reps K T Z1 es ws) : SI K T H0 Z0 (env.set i (some (.own es))) σ Z1 (upd H1 q (.lst ws)) := by
  obtain ⟨w, h1, q', vs, rfl, b, hq, zq, _⟩ := s.cell i _ he
  rw [hσ] at h1
  cases h1
  have oi : isOwnC env[i]? := by rw [he]; exact True.intro
  have hl2 : i < env.length := (List.getElem?_eq_some_iff.mp he).1
  refine ⟨⟨fun a o h => ?_, s.ext.zz, fun a o h => ?_, s.ext.st⟩, by simp [s.len], fun m cl hm' => ?_, fun m k u hmk a1 a2 a3 a4 => ?_, fun m c2 ds2 v2 hm' h' => ?_⟩
  · have ne : a ≠ q := fun z => by subst z; rw [b] at h; cases h
    rw [upd_ne ne]; exact s.ext.hh _ _ h
  · have ne : a ≠ q := fun z => by subst z; rw [zq] at h; cases h
    rw [upd_ne ne]; exact s.ext.zh _ _ h
  · by_cases z : i = m
    · subst z
      rw [List.getElem?_set_self hl2] at hm'
      cases hm'
      exact ⟨_, hσ, q, _, rfl, b, upd_same, zq, rs⟩
    · rw [List.getElem?_set_ne z] at hm'
      obtain ⟨u, g1, g2⟩ := s.cell m cl hm'
      refine ⟨u, g1, ?_⟩
      cases cl with
      | fro d => exact g2
      | own es =>
        obtain ⟨q2, ws, rfl, b2, hq2, zq2, rs2⟩ := g2
        have ne : q2 ≠ q := fun y => by
          subst y
          exact s.sep i m _ z oi (by rw [hm']; exact True.intro) hσ g1
        exact ⟨q2, ws, rfl, b2, by rw [upd_ne ne]; exact hq2, zq2, rs2⟩
      | mk c es =>
        obtain ⟨q2, dx2, ws, rfl, b2, hq2, zq2, rs2⟩ := g2
        have ne : q2 ≠ q := fun y => by
          subst y
          exact s.sep i m _ z oi (by rw [hm']; exact True.intro) hσ g1
        exact ⟨q2, dx2, ws, rfl, b2, by rw [upd_ne ne]; exact hq2, zq2, rs2⟩
  · have nf : ∀ r : Nat, isOwnC ((env.set i (some (.own es)))[r]?) → isOwnC env[r]? := fun r hr => by
      by_cases z : i = r
      · subst z; exact oi
      · rw [List.getElem?_set_ne z] at hr; exact hr
    exact s.sep m k u hmk (nf m a1) (nf k a2) a3 a4
  · by_cases z : i = m
    · subst z
      rw [List.getElem?_set_self hl2] at hm'; cases hm'
    · rw [List.getElem?_set_ne z] at hm'; exact s.me m _ _ _ hm' h'
def sApp (i : Nat) (f : FE) : FS := fun ρ => match ρ[i]? with
  | some (some (.own ds)) => bndS ρ (f ρ) fun r => bndS ρ (frz r) fun d => if ds.length < LINE then some (.nx (ρ.set i (some (.own (ds ++ [d]))))) else none
  | _ => none
def sSetIx (i : Nat) (fk f : FE) : FS := fun ρ => match ρ[i]? with
  | some (some (.own ds)) => bndS ρ (f ρ) fun r => bndS ρ (frz r) fun d => bndS ρ (fk ρ) fun k => bndS ρ (asI k) fun k => match ixN ds.length k with
    | some j => some (.nx (ρ.set i (some (.own (ds.set j d)))))
    | none => none
  | _ => none
section
variable {X : Cx} {T : Tab} {W : WX} {i : Nat} {x : Str} {xp apos cpos pos pos' : Pos} {e k : Expr} {f fk : FE}
theorem var_own {K : PySem.W.Frag} {H0 Z H : Hp} {Z0 : Hx} {env : PEnv} {σ : St} {ds : List Dt} (s : SI K T H0 Z0 env σ Z H) (he : env[i]? = some (some (.own ds))) : ∃ q vs, σ[i]? = some (some (.ref q)) ∧ H q = some (.lst vs) ∧ Reps K T Z ds vs := by
  obtain ⟨w, h1, q, vs, rfl, b, hq, zq, rs⟩ := s.cell i _ he
  exact ⟨q, vs, h1, hq, rs⟩
theorem pds_app (he : PD X T W e f) (hN : X.N[i]? = some x := by rfl) (hv : Vis X.env.scope x := by first | exact Or.inl rfl | exact Or.inr (Or.inl rfl) | exact Or.inr (Or.inr rfl)) (hd : (x == ("__debug__" : Str)) = false := by decide) (hcd : (x == ("__classdict__" : Str)) = false := by decide)
    (hbase : attributeBase (.Name x xp) "append" X.env (eval (.Name x xp) X.env) = eval (.Name x xp) X.env := by rfl)
    (hfew : ((backTo cpos (starEach (e :: []) X.env)).all (fun x => !x.1) && (backToKw cpos (keywordEach [] X.env)).all (fun x => x.1.isSome)
      && decide ((e :: []).length + ([] : List Keyword).length + (if ([] : List Keyword).isEmpty then 0 else 1) < 30)) = true := by rfl)
    (hline : (apos.endLine == cpos.line) = true := by rfl) (hs : starEach (e :: []) X.env = (false, eval e X.env) :: starEach [] X.env := by rfl) (hplain : (backTo cpos (starEach [] X.env)).any (·.1) = false := by rfl)
    (hsw : swapsWith (.Call (.Attribute (.Name x xp) "append" apos) [e] [] cpos) none pos.line X.env = pure false := by rfl) :
    PDS X T W (.Expr (.Call (.Attribute (.Name x xp) "append" apos) [e] [] cpos) pos) (sApp i f) := by
  refine PS.imp (ps_expr (pe_bm PySem.F.plainAttrs_list PySem.F.slot_list_append PySem.F.type_list_append mt_append (pe_var hN hv hd hcd) (pa_cons he pa_nil hs) hbase hfew hline hs hplain) hsw) fun D σ H ⟨H0, Z0, env, Z, out, h, s, p⟩ => ?_
  unfold sApp at h
  split at h
  · rename_i ds hk
    obtain ⟨q, vs, g1, g2, g3⟩ := var_own s hk
    refine ⟨_, g1, .inl ⟨rfl, vs, .of g2⟩, ?_⟩
    refine tD_bndSF h s p fun d v Z1 H1 hkk e1 rd s1 => ?_
    split at hkk
    · rename_i hl
      cases hkk
      obtain ⟨q', vs', g1', g2', g3'⟩ := var_own s1 hk
      rw [g1] at g1'
      cases g1'
      refine ⟨q, vs', v, rfl, rfl, g2', by rw [g3'.length, ← LINE_eq]; exact hl, ?_⟩
      exact p.nx _ rfl σ Z1 _ (s1.change hk g1 (g3'.append (.cons rd .nil)))
    · cases hkk
  · cases h
theorem pds_setIx (he : PD X T W e f) (hk : PD X T W k fk) (hN : X.N[i]? = some x := by rfl) (hv : Vis X.env.scope x := by first | exact Or.inl rfl | exact Or.inr (Or.inl rfl) | exact Or.inr (Or.inr rfl)) (hd : (x == ("__debug__" : Str)) = false := by decide) (hcd : (x == ("__classdict__" : Str)) = false := by decide)
    (ha : ∀ v, assign (.Subscript (.Name x xp) k pos') X.env v = (do
      let ov ← holding [v] (eval (.Name x xp) X.env)
      let iv ← holding [v, ov] (eval k X.env)
      standAt pos'
      holding [v, ov, iv] (setItem ov iv v)
      release [v, ov, iv] []) := by intro _; rfl)
    (hs : swapsWithSole [.Subscript (.Name x xp) k pos'] e pos.line X.env = pure false := by rfl) (hw : swappedStores [.Subscript (.Name x xp) k pos'] e X.env = pure none := by rfl)
    (h1 : (assignEach [.Subscript (.Name x xp) k pos'] X.env).map (·.2) = [assign (.Subscript (.Name x xp) k pos') X.env] := by rfl) :
    PDS X T W (.Assign [.Subscript (.Name x xp) k pos'] e pos) (sSetIx i fk f) := by
  refine PS.imp (ps_asg he (pg_sub (pe_var hN hv hd hcd) hk set_list ha) hs hw h1) fun D σ H ⟨H0, Z0, env, Z, out, h, s, p⟩ => ?_
  unfold sSetIx at h
  split at h
  · rename_i ds hk
    refine tD_bndSF h s p fun d v Z1 H1 hkk e1 rd s1 => ?_
    obtain ⟨q, vs, g1, g2, g3⟩ := var_own s1 hk
    refine ⟨_, g1, ?_⟩
    refine tD_bndS hkk s1 p fun r w Z2 H2 hk2 e2 rr s2 => ?_
    rcases bndS_cases hk2 with ⟨c, es, q1, q2⟩ | ⟨kk, q1, q2⟩
    · unfold asI at q1; split at q1 <;> cases q1
    · unfold asI at q1
      split at q1
      · cases q1
        simp only [RRep, Rep] at rr
        split at q2
        · rename_i j hj
          cases q2
          obtain ⟨q', vs', g1', g2', g3'⟩ := var_own s2 hk
          rw [g1] at g1'
          cases g1'
          refine ⟨q, vs', kk, j, rfl, rr, g2', by rw [g3'.length]; exact hj, ?_⟩
          exact p.nx _ rfl σ Z2 _ (s2.change hk g1 (g3'.set j (rd.mono e2.zz)))
        · cases q2
      · cases q1
  · cases h
def sAug (g : G2) (i : Nat) (f : FE) : FS := fun ρ => match ρ[i]? with
  | some (some (.fro d)) => bndS ρ (f ρ) fun r => bndS ρ (g (.fro d) r) fun r => match celOf r with
    | some c => some (.nx (ρ.set i (some c)))
    | none => none
  | _ => none
theorem pds_augI {op : Operator} {gg : Int → Int → Int} (hop : PIp X op (ipI gg)) (hN : X.N.Nodup) (he : PD X T W e f) (hi : X.N[i]? = some x := by rfl) (hx : Loc X.env.scope x := by first | exact Or.inl rfl | exact Or.inr rfl) (hf : X.fn x = true ∨ X.env.scope.names.lookup x = some .local := by first | exact .inl rfl | exact .inr rfl) :
    PDS X T W (.AugAssign (.Name x xp) op e pos) (sAug (gII fun a b => vI (gg a b)) i f) := by
  refine PS.imp (ps_aug hN hi hx he hop hf) fun D σ H ⟨H0, Z0, env, Z, out, h, s, p⟩ => ?_
  unfold sAug at h
  split at h
  · rename_i d hd
    obtain ⟨v, g1, g2⟩ := s.cell i _ hd
    refine ⟨v, g1, ?_⟩
    refine tD_bndS h s p fun r w Z1 H1 hk e1 rr s1 => ?_
    rcases bndS_cases hk with ⟨c, es, q1, q2⟩ | ⟨r2, q1, q2⟩
    · obtain ⟨a, b, _, _, z⟩ := gII_inv q1; cases z
    · obtain ⟨a, b, ea, rfl, z⟩ := gII_inv q1
      cases ea
      cases z
      simp only [RRep, CRep, Rep] at rr g2
      subst rr g2
      cases q2
      exact ⟨a, b, rfl, rfl, p.nx _ rfl _ Z1 H1 (s1.setFro (by simp only [Rep]))⟩
  · cases h
end
end Pd
set_option maxHeartbeats 2000000
namespace Pd
open PySem PySem.Spec L2
open PyProof.Rows (envOfC)
abbrev GT := Dt → PEnv → Option PEnv
def TgD (K : PySem.W.Frag) (T : Tab) (g : TG) (gt : GT) (vs : List Nat) : Prop := ∀ (H0 : Hp) (Z0 : Hx) (env env' : PEnv) (σ : St) (Z H : Hp) (d : Dt) (v : V) (Q : St → Hp → Prop), gt d env = some env' → Rep K T Z d v → SI K T H0 Z0 env σ Z H →
  (∀ σ', SI K T H0 Z0 env' σ' Z H → wipe σ' vs = wipe σ vs → Q σ' H) → g v σ H Q
def gtName (i : Nat) : GT := fun d ρ => some (ρ.set i (some (.fro d)))
theorem wipe_set {σ : St} {i : Nat} {x : Option V} : ∀ {vs : List Nat}, i ∈ vs → wipe (σ.set i x) vs = wipe σ vs
  | [], h => by simp at h
  | v :: vs, h => by
    by_cases hv : i ∈ vs
    · show (wipe (σ.set i x) vs).set v none = (wipe σ vs).set v none
      rw [wipe_set hv]
    · have e : i = v := by
        rcases List.mem_cons.mp h with e | e
        · exact e
        · exact absurd e hv
      subst e
      show (wipe (σ.set i x) vs).set i none = (wipe σ vs).set i none
      have comm : ∀ ws : List Nat, i ∉ ws → wipe (σ.set i x) ws = (wipe σ ws).set i x := by
        intro ws
        induction ws with
        | nil => intro _; rfl
        | cons w ws ih =>
          intro hw
          show (wipe (σ.set i x) ws).set w none = ((wipe σ ws).set w none).set i x
          rw [ih fun z => hw (List.mem_cons_of_mem _ z), List.set_comm]
          exact fun z => hw (by simp [z])
      rw [comm vs hv, List.set_set]
theorem tg_name {K : PySem.W.Frag} {T : Tab} {i : Nat} {vs : List Nat} (h : i ∈ vs) : TgD K T (gName i) (gtName i) vs := fun H0 Z0 env env' σ Z H d v Q e r s q => by
  cases e
  exact q _ (s.setFro r) (wipe_set h)
section
variable {X : Cx} {T : Tab} {W : WX} {e : Expr} {es : List Expr} {f : FE} {pos tpos : Pos} {k : Nat}
end
def ItD (K : PySem.W.Frag) (T : Tab) (J : It) (Z1 H1 : Hp) (ds : List Dt) : Prop :=
  (∀ (i : Nat) (d : Dt) (Z H : Hp), Le Z1 Z → Le Z H → ds[i]? = some d → J.go i H ∧ ∀ x H', J.yld i H x H' → ∃ Z', Ext4 Z H Z' H' ∧ Rep K T Z' d x) ∧
  ∀ (i : Nat) (Z H : Hp), Le Z1 Z → Le Z H → ds.length ≤ i → J.stop i H
abbrev FIt := PEnv → M (List Dt)
structure PostI (K : PySem.W.Frag) (T : Tab) (Z H : Hp) (σ : St) (W : WX) (R : It → Hp → Prop) (out : Ex (List Dt)) : Prop where
  ok : ∀ ds, out = .ok ds → ∀ J Z' H', Ext4 Z H Z' H' → ItD K T J Z' H' ds → R J H'
  ex : ∀ c ds, out = .ex c ds → ∀ cls d Z' H', Ext4 Z H Z' H' → XRep K T Z' H' cls d c ds → W cls d σ H'
def tDI (K : PySem.W.Frag) (T : Tab) (W : WX) (f : FIt) : TI := fun σ H R => ∃ H0 Z0 env Z out, f env = some out ∧ SI K T H0 Z0 env σ Z H ∧ PostI K T Z H σ W R out
abbrev PDI (X : Cx) (T : Tab) (W : WX) (tg e : Expr) (f : FIt) : Prop := PI X tg e (tDI X.K T W f)
theorem PI.imp {X : Cx} {tg e : Expr} {t t' : TI} (h : PI X tg e t) (i : ∀ σ H R, t' σ H R → t σ H R) : PI X tg e t' := ⟨fun pins s σ H R I q => h.run pins s σ H R I (i σ H R q)⟩
theorem PI.or {X : Cx} {tg e : Expr} {t t' : TI} (h : PI X tg e t) (h' : PI X tg e t') : PI X tg e (fun σ H R => t σ H R ∨ t' σ H R) := ⟨fun pins s σ H R I q => q.elim (h.run pins s σ H R I) (h'.run pins s σ H R I)⟩
theorem itD_list {K : PySem.W.Frag} {T : Tab} {Z1 H1 : Hp} {a : Addr} {vs : List V} {ds : List Dt} (h : SqL K Z1 a vs) (r : Reps K T Z1 ds vs) : ItD K T (Itl K a) Z1 H1 ds := by
  refine ⟨fun i d Z H l1 l2 hd => ?_, fun i Z H l1 l2 hi => ⟨vs, l2.seqL (l1.seqL h), by rw [r.length]; exact hi⟩⟩
  obtain ⟨w, g1, g2⟩ := r.get hd
  refine ⟨⟨vs, w, l2.seqL (l1.seqL h), g1⟩, fun x H' ⟨e, y⟩ => ?_⟩
  subst e
  have := y vs (l2.seqL (l1.seqL h))
  rw [g1] at this
  cases this
  exact ⟨Z, Ext4.refl l2, g2.mono l1⟩
theorem itD_tup {K : PySem.W.Frag} {T : Tab} {Z1 H1 : Hp} {a : Addr} {vs : List V} {ds : List Dt} (h : SqT K Z1 a vs) (r : Reps K T Z1 ds vs) : ItD K T (Itt K a) Z1 H1 ds := by
  refine ⟨fun i d Z H l1 l2 hd => ?_, fun i Z H l1 l2 hi => ⟨vs, l2.seqT (l1.seqT h), by rw [r.length]; exact hi⟩⟩
  obtain ⟨w, g1, g2⟩ := r.get hd
  refine ⟨⟨vs, w, l2.seqT (l1.seqT h), g1⟩, fun x H' ⟨e, y⟩ => ?_⟩
  subst e
  have := y vs (l2.seqT (l1.seqT h))
  rw [g1] at this
  cases this
  exact ⟨Z, Ext4.refl l2, g2.mono l1⟩
def asSeq : Dt → Option (List Dt)
  | .lst ds => some ds
  | .tup ds => some ds
  | _ => none
def iSeq (f : FE) : FIt := fun ρ => bnd (f ρ) fun r => bnd (frz r) fun d => match asSeq d with
  | some ds => some (.ok ds)
  | none => none
def intsFrom (a : Int) : Nat → List Dt
  | 0 => []
  | n + 1 => .int a :: intsFrom (a + 1) n
theorem intsFrom_length (a : Int) (n : Nat) : (intsFrom a n).length = n := by
  induction n generalizing a with
  | zero => rfl
  | succ n ih => simp [intsFrom, ih]
theorem intsFrom_get (a : Int) (n i : Nat) {d : Dt} (h : (intsFrom a n)[i]? = some d) : i < n ∧ d = .int (a + i) := by
  induction n generalizing a i with
  | zero => simp [intsFrom] at h
  | succ n ih =>
    cases i with
    | zero => simp [intsFrom] at h; exact ⟨by omega, by rw [← h]; simp⟩
    | succ i =>
      obtain ⟨h1, h2⟩ := ih (a + 1) i (by simpa [intsFrom] using h)
      refine ⟨by omega, ?_⟩
      rw [h2]
      congr 1
      omega
def intsBy (a c : Int) : Nat → List Dt
  | 0 => []
  | n + 1 => .int a :: intsBy (a + c) c n
theorem intsBy_length (a c : Int) (n : Nat) : (intsBy a c n).length = n := by
  induction n generalizing a with
  | zero => rfl
  | succ n ih => simp [intsBy, ih]
theorem intsBy_get (a c : Int) (n i : Nat) {d : Dt} (h : (intsBy a c n)[i]? = some d) : i < n ∧ d = .int (a + i * c) := by
  induction n generalizing a i with
  | zero => simp [intsBy] at h
  | succ n ih =>
    cases i with
    | zero => simp [intsBy] at h; exact ⟨by omega, by rw [← h]; simp⟩
    | succ i =>
      obtain ⟨h1, h2⟩ := ih (a + c) i (by simpa [intsBy] using h)
      refine ⟨by omega, ?_⟩
      rw [h2]
      congr 1
      have : ((i + 1 : Nat) : Int) * c = (i : Int) * c + c := by
        rw [Int.natCast_add, Int.add_mul]; simp
      omega
theorem itD_rng {K : PySem.W.Frag} {T : Tab} {Z1 H1 : Hp} {lo : Int} {n : Nat} : ItD K T (Itr lo n) Z1 H1 (intsFrom lo n) := by
  refine ⟨fun i d Z H l1 l2 hd => ?_, fun i Z H l1 l2 hi => ?_⟩
  · obtain ⟨h1, rfl⟩ := intsFrom_get lo n i hd
    exact ⟨h1, fun x H' ⟨e, y⟩ => by subst e; subst y; exact ⟨Z, Ext4.refl l2, by simp only [Rep]⟩⟩
  · show n ≤ i
    rw [intsFrom_length] at hi
    exact hi
theorem itD_rngC {K : PySem.W.Frag} {T : Tab} {Z1 H1 : Hp} {lo c : Int} {n : Nat} : ItD K T (Itc lo c n) Z1 H1 (intsBy lo c n) := by
  refine ⟨fun i d Z H l1 l2 hd => ?_, fun i Z H l1 l2 hi => ?_⟩
  · obtain ⟨h1, rfl⟩ := intsBy_get lo c n i hd
    exact ⟨h1, fun x H' ⟨e, y⟩ => by subst e; subst y; exact ⟨Z, Ext4.refl l2, by simp only [Rep]⟩⟩
  · show n ≤ i
    rw [intsBy_length] at hi
    exact hi
def rOk (i : Int) : Bool := decide (-(2 ^ 62) ≤ i) && decide (i < 2 ^ 62)
theorem rOk_iff {i : Int} (h : rOk i = true) : -(2 ^ 62) ≤ i ∧ i < 2 ^ 62 := by
  unfold rOk at h
  rw [Bool.and_eq_true, decide_eq_true_eq, decide_eq_true_eq] at h
  exact h
def iRng1 (f : FE) : FIt := fun ρ => bnd (f ρ) fun r => bnd (asI r) fun n => if rOk n then some (.ok (intsFrom 0 n.toNat)) else none
def iRngD (f g : FE) : FIt := fun ρ => bnd (f ρ) fun r => bnd (g ρ) fun q => bnd (asI r) fun a => bnd (asI q) fun b => if rOk a && rOk b then some (.ok (intsBy a (-1) (a - b).toNat)) else none
section
variable {K : PySem.W.Frag} {T : Tab} {W : WX} {H0 Z H : Hp} {Z0 : Hx} {env : PEnv} {σ : St} {R : It → Hp → Prop} {out : Ex (List Dt)}
theorem PostI.step {Z1 H1 : Hp} (p : PostI K T Z H σ W R out) (e : Ext4 Z H Z1 H1) : PostI K T Z1 H1 σ W R out :=
  ⟨fun ds h J Z' H' e' => p.ok ds h J Z' H' (e.trans e'), fun c ds h cls d Z' H' e' x => p.ex c ds h cls d Z' H' (e.trans e') x⟩
theorem tD_bndI {fa : FE} {k : Rs → M (List Dt)} {G : VK} (h : bnd (fa env) k = some out) (s : SI K T H0 Z0 env σ Z H) (p : PostI K T Z H σ W R out)
    (go : ∀ r v Z1 H1, k r = some out → Ext4 Z H Z1 H1 → RRep K T H Z1 H1 v r → SI K T H0 Z0 env σ Z1 H1 → PostI K T Z1 H1 σ W R out → G v H1) : tD K T W fa σ H G := by
  rcases bnd_cases h with ⟨c, ds, e1, e2⟩ | ⟨r, e1, e2⟩
  · exact ⟨H0, Z0, env, Z, _, e1, s, fun r q => (nomatch q), fun c' ds' q cls d Z' H' e x => by cases q; exact p.ex _ _ e2 cls d Z' H' e x⟩
  · refine ⟨H0, Z0, env, Z, _, e1, s, fun r' q v Z' H' e rr => ?_, fun c' ds' q => (nomatch q)⟩
    cases q
    exact go r v Z' H' e2 e rr (s.step e) (p.step e)
theorem asI_inv {r : Rs} {α : Type} {k : Int → M α} {o : Ex α} (h : bnd (asI r) k = some o) : ∃ i, r = .fro (.int i) ∧ k i = some o := by
  rcases bnd_cases h with ⟨c, ds, e1, _⟩ | ⟨i, e1, e2⟩
  · unfold asI at e1; split at e1 <;> cases e1
  · unfold asI at e1
    split at e1
    · cases e1; exact ⟨_, rfl, e2⟩
    · cases e1
variable {X : Cx} {tg e a b : Expr} {f fa fb : FE} {p pos : Pos}
theorem pdi_seq (he : PD X T W e f) : PDI X T W tg e (iSeq f) := by
  refine PI.imp (PI.or (pi_list he) (pi_tup he)) fun σ H R ⟨H0, Z0, env, Z, out, h, s, p⟩ => ?_
  unfold iSeq at h
  rcases bnd_cases h with ⟨c, ds, q1, q2⟩ | ⟨r, q1, q2⟩
  · exact .inl ⟨H0, Z0, env, Z, _, q1, s, fun r q => (nomatch q), fun c' ds' q cls d Z' H' e x => by cases q; exact p.ex _ _ q2 cls d Z' H' e x⟩
  · rcases bnd_cases q2 with ⟨c, ds, q3, q4⟩ | ⟨d, q3, q4⟩
    · cases r <;> cases q3
    · cases d with
      | lst ds =>
        cases q4
        refine .inl ⟨H0, Z0, env, Z, _, q1, s, fun r' q v Z' H' x rr => ?_, fun c' ds' q => (nomatch q)⟩
        cases q
        obtain ⟨Z2, x2, _, rd⟩ := rr.freeze q3 x
        simp only [Rep] at rd
        obtain ⟨q, vs, rfl, g1, g2⟩ := rd
        exact ⟨q, rfl, ⟨vs, x2.zh.seqL g1⟩, p.ok _ rfl _ Z2 H' x2 (itD_list g1 g2)⟩
      | tup ds =>
        cases q4
        refine .inr ⟨H0, Z0, env, Z, _, q1, s, fun r' q v Z' H' x rr => ?_, fun c' ds' q => (nomatch q)⟩
        cases q
        obtain ⟨Z2, x2, _, rd⟩ := rr.freeze q3 x
        simp only [Rep] at rd
        obtain ⟨q, vs, rfl, g1, g2⟩ := rd
        exact ⟨q, rfl, ⟨vs, x2.zh.seqT g1⟩, p.ok _ rfl _ Z2 H' x2 (itD_tup g1 g2)⟩
      | _ => cases q4
theorem pdi_rng1 (hm : X.mg "range" = none) (ha : PD X T W a fa) (hg : Gl X "range" := by rfl) (hs : starEach [a] X.env = [(false, eval a X.env)] := by rfl) : PDI X T W tg (.Call (.Name "range" p) [a] [] pos) (iRng1 fa) := by
  refine PI.imp (pi_range1 hg hm (pa_cons ha pa_nil hs) hs) fun σ H R ⟨H0, Z0, env, Z, out, h, s, p⟩ => ?_
  refine tD_bndI h s p fun r v Z1 H1 hk e1 rr s1 p1 => ?_
  obtain ⟨n, en, hk'⟩ := asI_inv hk
  subst en
  split at hk'
  · rename_i ho
    cases hk'
    simp only [RRep, Rep] at rr
    subst rr
    exact ⟨n, rfl, (rOk_iff ho).1, (rOk_iff ho).2, p1.ok _ rfl _ Z1 H1 (Ext4.refl e1.zh) itD_rng⟩
  · cases hk'
theorem pdi_rngD {jj : Nat} {p1 p2 : Pos} (hm : X.mg "range" = none) (ha : PD X T W a fa) (hb : PD X T W b fb) (hg : Gl X "range" := by rfl)
    (hs : starEach [a, b, .UnaryOp .USub (.Constant (.int 1) jj p1) p2] X.env = (false, eval a X.env) :: starEach [b, .UnaryOp .USub (.Constant (.int 1) jj p1) p2] X.env := by rfl)
    (hs2 : starEach [b, .UnaryOp .USub (.Constant (.int 1) jj p1) p2] X.env = (false, eval b X.env) :: starEach [.UnaryOp .USub (.Constant (.int 1) jj p1) p2] X.env := by rfl)
    (hpl : (backTo pos (starEach [b, .UnaryOp .USub (.Constant (.int 1) jj p1) p2] X.env)).any (·.1) = false := by rfl) :
    PDI X T W tg (.Call (.Name "range" p) [a, b, .UnaryOp .USub (.Constant (.int 1) jj p1) p2] [] pos) (iRngD fa fb) := by
  refine PI.imp (pi_range3 hg hm (pa_cons ha (pa_cons hb (pa_cons (pe_un un_neg (pe_int)) pa_nil (by rfl)) hs2) hs) hs hpl) fun σ H R ⟨H0, Z0, env, Z, out, h, s, p⟩ => ?_
  refine tD_bndI h s p fun r v Z1 H1 hk e1 rr s1 p1 => ?_
  refine tD_bndI hk s1 p1 fun r2 v2 Z2 H2 hk2 e2 rr2 s2 p2 => ?_
  obtain ⟨a, ea, hk3⟩ := asI_inv hk2
  obtain ⟨b, eb, hk4⟩ := asI_inv hk3
  subst ea eb
  split at hk4
  · rename_i ho
    rw [Bool.and_eq_true] at ho
    cases hk4
    simp only [RRep, Rep] at rr rr2
    subst rr rr2
    have o1 := rOk_iff ho.1
    have o2 := rOk_iff ho.2
    exact ⟨1, rfl, a, b, -1, _, rfl, RgC.neg (by omega) (by omega) (by omega) (by omega), p2.ok _ rfl _ Z2 H2 (Ext4.refl e2.zh) itD_rngC⟩
  · cases hk4
end
def forD (gt : GT) (body : FS) : List Dt → PEnv → Option Out
  | [], ρ => some (.nx ρ)
  | d :: ds, ρ => match gt d ρ with
    | none => none
    | some ρ1 => match body ρ1 with
      | some (.nx ρ2) => forD gt body ds ρ2
      | some (.ct ρ2) => forD gt body ds ρ2
      | some (.bk ρ2) => some (.nx ρ2)
      | o => o
def sFor (g : FIt) (gt : GT) (body : FS) : FS := fun ρ => bndS ρ (g ρ) fun ds => forD gt body ds ρ
theorem SI.up {K : PySem.W.Frag} {T : Tab} {H0 Z1 H1 : Hp} {Z0 : Hx} {env : PEnv} {σ : St} (s : SI K T H0 Z0 env σ Z1 H1) : SI K T H0 (Z1, Z0.2) env σ Z1 H1 :=
  ⟨⟨s.ext.hh, Le.refl _, s.ext.zh, fun _ _ => rfl⟩, s.len, s.cell, s.sep, s.me⟩
theorem SI.down {K : PySem.W.Frag} {T : Tab} {H0 Z1 H1 Z H : Hp} {Z0 : Hx} {env : PEnv} {σ : St} (b : Ext4 Z0.1 H0 Z1 H1) (s : SI K T H0 (Z1, Z0.2) env σ Z H) : SI K T H0 Z0 env σ Z H :=
  ⟨⟨s.ext.hh, b.zz.trans s.ext.zz, s.ext.zh, fun a h => (s.ext.st a h).trans (b.st a h)⟩, s.len, s.cell, s.sep, s.me⟩
theorem Ext4.down {H0 Z0 Z1 H1 Z H : Hp} (b : Ext4 Z0 H0 Z1 H1) (s : Ext4 Z1 H0 Z H) : Ext4 Z0 H0 Z H := ⟨s.hh, b.zz.trans s.zz, s.zh, fun a h => (s.st a h).trans (b.st a h)⟩
section
variable {X : Cx} {T : Tab} {W : WX} {tg iter : Expr} {g : FIt} {gt : GT} {tgr : TG} {body : List Stmt} {F : FS} {pos : Pos} {vs : List Nat}
theorem pds_for (hp : PassesOwn (model X.prog X.w) X.A X.env X.xe) (hc : X.calm = true) (hi : PDI X T W tg iter g) (hg : PG X tg tgr) (ht : TgD X.K T tgr gt vs) (hb : PDSs X T W body F) (hs : ∀ x, foldedSetIterable iter X.env x = pure x := by intro _; rfl) :
    PDS X T W (.For tg iter body [] pos) (sFor g gt F) := by
  refine PS.imp (ps_for hp hc hi hg hb hs) fun D σ H ⟨H0, Z0, env, Z, out, h, s, p⟩ => ?_
  unfold sFor at h
  show tDI X.K T W g σ H _
  rcases bndS_cases h with ⟨c, ds, e1, e2⟩ | ⟨ds, e1, e2⟩
  · exact ⟨H0, Z0, env, Z, _, e1, s, fun r q => (nomatch q), fun c' ds' q cls d Z' H' e x => by cases q; exact p.xc _ _ _ e2 cls d σ Z' H' (s.step e) x⟩
  · refine ⟨H0, Z0, env, Z, _, e1, s, fun ds' q J Z1 H1 x1 it => ?_, fun c' ds' q => (nomatch q)⟩
    cases q
    have b1 : Ext4 Z0.1 H0 Z1 H1 := s.ext.trans x1
    refine ⟨fun i m σ' H' => ∃ env' Z', i ≤ ds.length ∧ m = ds.length - i ∧ SI X.K T H0 (Z1, Z0.2) env' σ' Z' H' ∧ forD gt F (ds.drop i) env' = some out, ⟨_, env, Z1, Nat.zero_le _, rfl, (s.step x1).up, e2⟩, ?_⟩
    rintro i m σ' H' ⟨env', Z', hi', rfl, s', hf⟩
    have l' : Le Z1 Z' := s'.ext.zz
    by_cases hlt : i < ds.length
    · obtain ⟨go, yl⟩ := it.1 i ds[i] Z' H' l' s'.zh (by simp [hlt])
      rw [List.drop_eq_getElem_cons hlt] at hf
      unfold forD at hf
      split at hf
      · cases hf
      · rename_i ρ1 hρ1
        refine .inr ⟨go, fun σ2 H2 => ∃ env2 Z2, SI X.K T H0 (Z1, Z0.2) env2 σ2 Z2 H2 ∧ forD gt F (ds.drop (i + 1)) env2 = some out, fun σ2 H2 ⟨env2, Z2, a1, a3⟩ => ⟨_, by omega, env2, Z2, hlt, rfl, a1, a3⟩, fun x H2 y => ?_⟩
        obtain ⟨Z2, x2, rd⟩ := yl x H2 y
        refine ht H0 (Z1, Z0.2) env' ρ1 σ' Z2 H2 _ x _ hρ1 rd (s'.step x2) fun σ3 s3 _ => ?_
        -- the body
        cases hF : F ρ1 with
        | none => rw [hF] at hf; cases hf
        | some o =>
          rw [hF] at hf
          refine ⟨H0, (Z1, Z0.2), ρ1, Z2, o, hF, s3, fun env4 e σ4 Z4 H4 s4 => ?_, fun r e v Z4 H4 x4 r4 => ?_, fun env4 e σ4 Z4 H4 s4 => ?_, fun env4 e σ4 Z4 H4 s4 => ?_, fun c es env4 e cls d σ4 Z4 H4 s4 xr => ?_⟩
          · subst e; exact ⟨env4, Z4, s4, hf⟩
          · subst e; cases hf; exact p.rt _ rfl v Z4 H4 (b1.down x4) r4
          · subst e; cases hf; exact p.nx _ rfl σ4 Z4 H4 (s4.down b1)
          · subst e; exact ⟨env4, Z4, s4, hf⟩
          · subst e; cases hf; exact p.xc _ _ _ rfl cls d σ4 Z4 H4 (s4.down b1) xr
    · have e : i = ds.length := by omega
      subst e
      rw [List.drop_length] at hf
      cases hf
      exact .inl ⟨it.2 _ Z' H' l' s'.zh (Nat.le_refl _), p.nx _ rfl σ' Z' H' (s'.down b1)⟩
end
def whileD (t : FT) (body : FS) : Nat → PEnv → Option Out
  | 0, _ => none
  | m + 1, ρ => bndS ρ (t ρ) fun b => if b then match body ρ with
      | some (.nx ρ2) => whileD t body m ρ2
      | some (.ct ρ2) => whileD t body m ρ2
      | some (.bk ρ2) => some (.nx ρ2)
      | o => o
    else some (.nx ρ)
open Classical in
noncomputable def sWhile (t : FT) (body : FS) : FS := fun ρ => if h : ∃ m o, whileD t body m ρ = some o then some (Classical.choose (Classical.choose_spec h)) else none
theorem whileD_more {t : FT} {body : FS} : ∀ {m : Nat} {ρ : PEnv} {o : Out}, whileD t body m ρ = some o → ∀ k, whileD t body (m + k) ρ = some o
  | 0, _, _, h, _ => by cases h
  | m + 1, ρ, o, h, k => by
    have e : m + 1 + k = (m + k) + 1 := by omega
    rw [e]
    unfold whileD at h ⊢
    rcases bndS_cases h with ⟨c, ds, e1, e2⟩ | ⟨b, e1, e2⟩
    · rw [e1]; exact congrArg some e2.symm
    · rw [e1]
      show (if b then _ else _) = _
      cases b with
      | false => exact e2
      | true =>
        simp only [if_true] at e2 ⊢
        cases hb : body ρ with
        | none => rw [hb] at e2; cases e2
        | some q =>
          rw [hb] at e2
          cases q with
          | nx ρ2 => exact whileD_more (m := m) e2 k
          | ct ρ2 => exact whileD_more (m := m) e2 k
          | bk ρ2 => exact e2
          | rt r => exact e2
          | xc c ds e => exact e2
theorem sWhile_of {t : FT} {body : FS} {m : Nat} {ρ : PEnv} {o : Out} (h : whileD t body m ρ = some o) : sWhile t body ρ = some o := by
  have hex : ∃ m o, whileD t body m ρ = some o := ⟨m, o, h⟩
  unfold sWhile
  rw [dif_pos hex]
  have sp := Classical.choose_spec (Classical.choose_spec hex)
  have a := whileD_more sp m
  have b := whileD_more h (Classical.choose hex)
  rw [Nat.add_comm] at b
  rw [a] at b
  exact b
theorem sWhile_inv {t : FT} {body : FS} {ρ : PEnv} {o : Out} (h : sWhile t body ρ = some o) : ∃ m, whileD t body m ρ = some o := by
  unfold sWhile at h
  split at h
  · rename_i hex
    have sp := Classical.choose_spec (Classical.choose_spec hex)
    exact ⟨_, by rw [sp]; exact h⟩
  · cases h
section
variable {X : Cx} {T : Tab} {W : WX} {c : Expr} {t : FT} {body : List Stmt} {F : FS} {pos : Pos}
theorem pds_while (hp : PassesOwn (model X.prog X.w) X.A X.env X.xe) (hc : PDT X T W c t) (hb : PDSs X T W body F) : PDS X T W (.While c body [] pos) (sWhile t F) := by
  refine PS.imp (ps_while hp hc hb) fun D σ H ⟨H0, Z0, env, Z, out, h, s, p⟩ => ?_
  obtain ⟨m0, h⟩ := sWhile_inv h
  refine ⟨fun m σ' H' => ∃ env' Z', SI X.K T H0 Z0 env' σ' Z' H' ∧ whileD t F m env' = some out, ⟨m0, env, Z, s, h⟩, ?_⟩
  rintro m σ' H' ⟨env', Z', s', hf⟩
  cases m with
  | zero => cases hf
  | succ m =>
    unfold whileD at hf
    refine tDT_bndS hf s' p fun b Z1 H1 hk e1 s1 => ?_
    cases b with
    | false => cases hk; exact iteF (p.nx _ rfl σ' Z1 H1 s1)
    | true =>
      refine iteT ⟨fun σ2 H2 => ∃ env2 Z2, SI X.K T H0 Z0 env2 σ2 Z2 H2 ∧ whileD t F m env2 = some out, fun σ2 H2 ⟨env2, Z2, a1, a2⟩ => ⟨m, Nat.lt_succ_self _, env2, Z2, a1, a2⟩, ?_⟩
      simp only [if_true] at hk
      cases hF : F env' with
      | none => rw [hF] at hk; cases hk
      | some o =>
        rw [hF] at hk
        refine ⟨H0, Z0, env', Z1, o, hF, s1, fun env4 e σ4 Z4 H4 s4 => ?_, fun r e v Z4 H4 x4 r4 => ?_, fun env4 e σ4 Z4 H4 s4 => ?_, fun env4 e σ4 Z4 H4 s4 => ?_, fun c es env4 e cls d σ4 Z4 H4 s4 xr => ?_⟩
        · subst e; exact ⟨env4, Z4, s4, hk⟩
        · subst e; cases hk; exact p.rt _ rfl v Z4 H4 x4 r4
        · subst e; cases hk; exact p.nx _ rfl σ4 Z4 H4 s4
        · subst e; exact ⟨env4, Z4, s4, hk⟩
        · subst e; cases hk; exact p.xc _ _ _ rfl cls d σ4 Z4 H4 s4 xr
end
def wipeE (ρ : PEnv) : List Nat → PEnv
  | [] => ρ
  | v :: vs => (wipeE ρ vs).set v none
theorem SI.setNone {K : PySem.W.Frag} {T : Tab} {H0 Z H : Hp} {Z0 : Hx} {env : PEnv} {σ : St} (s : SI K T H0 Z0 env σ Z H) (i : Nat) : SI K T H0 Z0 (env.set i none) (σ.set i none) Z H := by
  have at_ : ∀ (j : Nat) (c : Cel), (env.set i none)[j]? = some (some c) → i ≠ j ∧ env[j]? = some (some c) := fun j c h => by
    by_cases e : i = j
    · subst e
      by_cases hl : i < env.length
      · rw [List.getElem?_set_self hl] at h; cases h
      · rw [List.getElem?_eq_none (by simpa using hl)] at h; cases h
    · rw [List.getElem?_set_ne e] at h; exact ⟨e, h⟩
  have own_ : ∀ j : Nat, isOwnC ((env.set i none)[j]?) → i ≠ j ∧ isOwnC env[j]? := fun j h => by
    by_cases e : i = j
    · subst e
      by_cases hl : i < env.length
      · rw [List.getElem?_set_self hl] at h; exact h.elim
      · rw [List.getElem?_eq_none (by simpa using hl)] at h; exact h.elim
    · rw [List.getElem?_set_ne e] at h; exact ⟨e, h⟩
  refine ⟨s.ext, by simp [s.len], fun j c h => ?_, fun j k v hjk h1 h2 h3 h4 => ?_, fun j c ds v h h' => ?_⟩
  · obtain ⟨e, h⟩ := at_ j c h
    obtain ⟨v, g1, g2⟩ := s.cell j c h
    exact ⟨v, by rw [List.getElem?_set_ne e]; exact g1, g2⟩
  · obtain ⟨e1, h1⟩ := own_ j h1
    obtain ⟨e2, h2⟩ := own_ k h2
    rw [List.getElem?_set_ne e1] at h3
    rw [List.getElem?_set_ne e2] at h4
    exact s.sep j k v hjk h1 h2 h3 h4
  · obtain ⟨e, h⟩ := at_ j _ h
    rw [List.getElem?_set_ne e] at h'
    exact s.me j _ _ _ h h'
theorem SI.wipe {K : PySem.W.Frag} {T : Tab} {H0 Z H : Hp} {Z0 : Hx} {env : PEnv} {σ : St} (s : SI K T H0 Z0 env σ Z H) : ∀ vs : List Nat, SI K T H0 Z0 (wipeE env vs) (L2.wipe σ vs) Z H
  | [] => s
  | v :: vs => (s.wipe vs).setNone v
theorem wipe_idem {σ : St} : ∀ vs : List Nat, L2.wipe (L2.wipe σ vs) vs = L2.wipe σ vs := fun vs => by
  have set_none : ∀ (ws : List Nat) (i : Nat) (τ : St), i ∈ ws → (L2.wipe τ ws).set i none = L2.wipe τ ws := by
    intro ws
    induction ws with
    | nil => intro i τ h; simp at h
    | cons w ws ih =>
      intro i τ h
      show ((L2.wipe τ ws).set w none).set i none = (L2.wipe τ ws).set w none
      by_cases e : w = i
      · subst e; rw [List.set_set]
      · rw [List.set_comm _ _ e, ih i τ (by rcases List.mem_cons.mp h with z | z; exact absurd z.symm e; exact z)]
  have gen : ∀ (ws us : List Nat), (∀ w ∈ ws, w ∈ us) → L2.wipe (L2.wipe σ us) ws = L2.wipe σ us := by
    intro ws
    induction ws with
    | nil => intro us _; rfl
    | cons w ws ih =>
      intro us h
      show (L2.wipe (L2.wipe σ us) ws).set w none = _
      rw [ih us fun z hz => h z (List.mem_cons_of_mem _ hz), set_none us w σ (h w (by simp))]
  exact gen vs vs fun _ h => h
def lcD (gt : GT) (ct : FT) (elt : FE) (ρ : PEnv) : List Dt → Option (List Dt)
  | [] => some []
  | d :: ds => match gt d ρ with
    | none => none
    | some ρ1 => match ct ρ1 with
      | some (.ok true) => match bnd (elt ρ1) frz with
        | some (.ok e) => (lcD gt ct elt ρ ds).map (e :: ·)
        | _ => none
      | some (.ok false) => lcD gt ct elt ρ ds
      | _ => none
def eLc (vs : List Nat) (g : FIt) (gt : GT) (ct : FT) (elt : FE) : FE := fun ρ => bnd (g ρ) fun ds => match lcD gt ct elt (wipeE ρ vs) ds with
  | some es => if ds.length ≤ LINE then some (.ok (.own es)) else none
  | none => none
abbrev PDTs (X : Cx) (T : Tab) (W : WX) (ifs : List Expr) (f : FT) : Prop := PTs X ifs (tDT X.K T W f)
def tTrue : FT := fun _ => some (.ok true)
abbrev W0 : WX := fun _ _ _ _ => False
theorem takes_W0 {X : Cx} : Takes X W0 := fun u s' ⟨_, _, _, _, _, _, _, _, _, _, _, _, _, _, _, _, w⟩ => w.elim
theorem pdts_nil {X : Cx} {T : Tab} {W : WX} : PDTs X T W [] tTrue := ⟨fun pins s σ H Q I ⟨H0, Z0, env, Z, out, h, s0, p⟩ => by
  cases h
  exact pts_nil.run pins s σ H Q I (p.ok _ rfl Z H (Ext4.refl s0.zh))⟩
theorem lc_of {K : PySem.W.Frag} {T : Tab} {W : WX} {vs : List Nat} {g : FIt} {gt : GT} {ct : FT} {elt : FE} {tgr : TG} (ht : TgD K T tgr gt vs) {σ : St} {H : Hp} {Q : VK} (q : tD K T W (eLc vs g gt ct elt) σ H Q) :
    tLc (tDI K T W g) tgr (tDT K T W0 ct) (tD K T W0 elt) vs σ H Q := by
  obtain ⟨H0, Z0, env, Z, out, h, s, p⟩ := q
  unfold eLc at h
  show tDI K T W g σ H _
  rcases bnd_cases h with ⟨c, ds, e1, e2⟩ | ⟨ds, e1, e2⟩
  · exact ⟨H0, Z0, env, Z, _, e1, s, fun r q => (nomatch q), fun c' ds' q cls d Z' H' e x => by cases q; exact p.ex _ _ e2 cls d Z' H' e x⟩
  · refine ⟨H0, Z0, env, Z, _, e1, s, fun ds' q J Z1 H1 x1 it => ?_, fun c' ds' q => (nomatch q)⟩
    cases q
    split at e2
    · rename_i es hes
      split at e2
      · rename_i hline
        cases e2
        intro Da hD
        have s1 := (s.step x1).wipe vs
        have zD : Z1 Da = none := x1.zh.free hD
        refine ⟨fun i m H' => ∃ Z' acc done, i ≤ ds.length ∧ m = ds.length - i ∧ Ext4 Z1 H1 Z' H' ∧ H' Da = some (.lst acc) ∧ Z' Da = none ∧ Reps K T Z' done acc ∧ done.length ≤ i ∧ (lcD gt ct elt (wipeE env vs) (ds.drop i)).map (done ++ ·) = some es,
          ⟨_, Z1, [], [], Nat.zero_le _, rfl, Ext4.new x1.zh hD, upd_same, zD, .nil, Nat.le_refl _, by rw [List.drop_zero, hes]; rfl⟩, ?_⟩
        rintro i m H' ⟨Z', acc, done, hi', rfl, x', hD', zD', rs, hdl, hf⟩
        have s' := s1.step x'
        by_cases hlt : i < ds.length
        · obtain ⟨go, yl⟩ := it.1 i ds[i] Z' H' x'.zz x'.zh (by simp [hlt])
          rw [List.drop_eq_getElem_cons hlt] at hf
          refine .inr ⟨go, fun H2 => ∃ Z2 acc done, Ext4 Z1 H1 Z2 H2 ∧ H2 Da = some (.lst acc) ∧ Z2 Da = none ∧ Reps K T Z2 done acc ∧ done.length ≤ i + 1 ∧ (lcD gt ct elt (wipeE env vs) (ds.drop (i + 1))).map (done ++ ·) = some es,
            fun H2 ⟨Z2, acc, done, a1, a2, a3, a4, a5, a6⟩ => ⟨_, by omega, Z2, acc, done, hlt, rfl, a1, a2, a3, a4, a5, a6⟩, fun x H2 y => ?_⟩
          obtain ⟨Z2, x2, rd⟩ := yl x H2 y
          unfold lcD at hf
          split at hf
          · cases hf
          · rename_i ρ1 hρ1
            refine ht H0 Z0 _ ρ1 _ Z2 H2 _ x _ hρ1 rd (s'.step x2) fun σ3 s3 hw => ?_
            refine ⟨by rw [hw, wipe_idem], ?_⟩
            have x2' := x'.trans x2
            have hD2 : H2 Da = some (.lst acc) := x2.hh _ _ hD'
            have zD2 : Z2 Da = none := by rw [x2.st Da (by rw [hD']; simp)]; exact zD'
            split at hf
            · rename_i hct
              refine ⟨H0, Z0, ρ1, Z2, _, hct, s3, fun b q Z3 H3 x3 => ?_, fun c es q => (nomatch q)⟩
              cases q
              refine iteT ?_
              split at hf
              · rename_i e he
                rcases bnd_cases he with ⟨c, es', w1, w2⟩ | ⟨r, w1, w2⟩
                · cases w2
                · refine ⟨H0, Z0, ρ1, Z3, _, w1, s3.step x3, fun r' q v Z4 H4 x4 rr => ?_, fun c es q => (nomatch q)⟩
                  cases q
                  obtain ⟨Z5, x5, _, rd5⟩ := rr.freeze w2 x4
                  have hD3 : H3 Da = some (.lst acc) := x3.hh _ _ hD2
                  have zD3 : Z3 Da = none := by rw [x3.st Da (by rw [hD2]; simp)]; exact zD2
                  have hD5 : H4 Da = some (.lst acc) := x5.hh _ _ hD3
                  have zD5 : Z5 Da = none := by rw [x5.st Da (by rw [hD3]; simp)]; exact zD3
                  have x25 := (x2'.trans x3).trans x5
                  have l25 : Le Z' Z5 := x2.zz.trans (x3.zz.trans x5.zz)
                  refine ⟨acc, hD5, ?_, Z5, acc ++ [v], done ++ [e], ⟨fun a o h => ?_, x25.zz, fun a o h => ?_, x25.st⟩, upd_same, zD5, (rs.mono l25).append (.cons rd5 .nil), by rw [List.length_append, List.length_singleton]; omega, ?_⟩
                  · rw [rs.length]
                    have : ds.length ≤ sizeLine := line_of hline
                    omega
                  · have ne : a ≠ Da := fun z => by subst z; rw [hD] at h; cases h
                    rw [upd_ne ne]; exact x25.hh _ _ h
                  · have ne : a ≠ Da := fun z => by subst z; rw [zD5] at h; cases h
                    rw [upd_ne ne]; exact x25.zh _ _ h
                  · rw [← hf, Option.map_map]
                    congr 1
                    funext l
                    simp
              · cases hf
            · rename_i hct
              refine ⟨H0, Z0, ρ1, Z2, _, hct, s3, fun b q Z3 H3 x3 => ?_, fun c es q => (nomatch q)⟩
              cases q
              have hD3 : H3 Da = some (.lst acc) := x3.hh _ _ hD2
              have zD3 : Z3 Da = none := by rw [x3.st Da (by rw [hD2]; simp)]; exact zD2
              exact iteF ⟨Z3, acc, done, x2'.trans x3, hD3, zD3, rs.mono (x2.zz.trans x3.zz), by omega, hf⟩
            · cases hf
        · have e : i = ds.length := by omega
          subst e
          rw [List.drop_length] at hf
          have he : done = es := by
            unfold lcD at hf
            simpa using hf
          subst he
          refine .inl ⟨it.2 _ Z' H' x'.zz x'.zh (Nat.le_refl _), ?_⟩
          exact p.ok _ rfl _ Z' H' (x1.trans x') ⟨Da, acc, rfl, x1.hh.free hD, hD', zD', rs⟩
      · cases e2
    · cases e2
section
variable {X : Cx} {T : Tab} {W : WX} {elt tg iter : Expr} {ifs : List Expr} {scope : Scope} {own : List (Str × Nat)} {pos spos py : Pos} {g : FIt} {gt : GT} {ct : FT} {f : FE} {tgr : TG}
theorem pd_lc (hc : X.calm = true) (hN : X.N.Nodup) (hi : PDI X T W tg iter g) (ok : BlkOk X.N X.env.scope scope own) (ht : TgD X.K T tgr gt (own.map (·.2)))
    (hg : ∀ (s : Shared) (H : Hp) (C : Addr) (cl : List (Str × Addr)) (fp : List Addr), PG (X.blk s H scope (compEnvC scope cl C X.env) fp) tg tgr)
    (hif : ∀ (s : Shared) (H : Hp) (C : Addr) (cl : List (Str × Addr)) (fp : List Addr), PDTs (X.blk s H scope (compEnvC scope cl C X.env) fp) T W0 ifs ct)
    (he : ∀ (s : Shared) (H : Hp) (C : Addr) (cl : List (Str × Addr)) (fp : List Addr), PD (X.blk s H scope (compEnvC scope cl C X.env) fp) T W0 elt f) (hs : ∀ x, foldedSetIterable iter X.env x = pure x := by intro _; rfl) :
    PD X T W (.ListComp elt [⟨tg, iter, ifs, 0⟩] scope pos) (eLc (own.map (·.2)) g gt ct f) :=
  PE.imp (pe_lc hc hN hi ok hg hif he hs) fun _ _ _ q => lc_of ht q
theorem pds_setLc {i : Nat} {y : Str} (hc : X.calm = true) (hN : X.N.Nodup) (hy : X.N[i]? = some y) (hyl : X.env.scope.names.lookup y = some .local)
    (hsw : swapsWith (.ListComp elt [⟨tg, iter, ifs, 0⟩] scope pos) (some (.Name y py)) spos.line X.env = pure true) (hi : PDI X T W tg iter g) (ok : BlkOk X.N X.env.scope scope own) (ht : TgD X.K T tgr gt (own.map (·.2)))
    (hg : ∀ (s : Shared) (H : Hp) (C : Addr) (cl : List (Str × Addr)) (fp : List Addr), PG (X.blk s H scope (compEnvC scope cl C X.env) fp) tg tgr)
    (hif : ∀ (s : Shared) (H : Hp) (C : Addr) (cl : List (Str × Addr)) (fp : List Addr), PDTs (X.blk s H scope (compEnvC scope cl C X.env) fp) T W0 ifs ct)
    (he : ∀ (s : Shared) (H : Hp) (C : Addr) (cl : List (Str × Addr)) (fp : List Addr), PD (X.blk s H scope (compEnvC scope cl C X.env) fp) T W0 elt f) (hs : ∀ x, foldedSetIterable iter X.env x = pure x := by intro _; rfl) :
    PDS X T W (.Assign [.Name y py] (.ListComp elt [⟨tg, iter, ifs, 0⟩] scope pos) spos) (sSet i (eLc (own.map (·.2)) g gt ct f)) := by
  refine PS.imp (ps_setLc (te := tD X.K T W0 f) (tt := tDT X.K T W0 ct) hc hN hy hyl hsw hi ok hg hif he hs) fun D σ H ⟨H0, Z0, env, Z, out, h, s, p⟩ => ?_
  refine lc_of ht (tD_bndS h s p fun r v Z1 H1 hk e1 rr s1 => ?_)
  cases r with
  | fro d => cases hk; exact p.nx _ rfl _ Z1 H1 (s1.setFro rr)
  | own ds =>
    cases hk
    obtain ⟨q, vs, rfl, b, hq, zq, rs⟩ := rr
    refine p.nx _ rfl _ Z1 H1 (s1.setOwn (ds := ds) ⟨q, vs, rfl, s.ext.hh.free b, hq, zq, rs⟩ fun j hj hσ => ?_)
    obtain ⟨q', o, e', h', _⟩ := s.ownAt hj hσ
    cases e'
    rw [h'] at b; cases b
  | bor ds => cases hk
end
end Pd
set_option maxHeartbeats 2000000
namespace Pd
open PySem PySem.Spec L2
section
variable {K : PySem.W.Frag} {T : Tab} {x qual : Str} {params : Arguments} {body : List Stmt} {scope : Scope} {dvs : List V} {kws : List (Str × V)} {f : Addr} {fd : FuncData} {ps : List Str} {n : Nat}
theorem kbn_pos (F : FunD K x qual params body scope [] kws f fd) (hn : ps.length = n)
    (h : ∀ (kV doc pm : Value) (an : Option Addr) (cdv ct : Value) (us : List Value), us.length = ps.length → bindArgs (PySem.W.fnOf x qual params body scope .none kV doc pm an cdv ct) ⟨us, []⟩ = pure (ps.zip us)) :
    KBn K fd ps n [] (fun us _ => us) (fun vs _ => vs) := by
  have B := FunD.bindsA F h
  refine ⟨fun s us ws _ l1 l2 => ?_, fun r _ => r⟩
  show BindsTo s fd ⟨us, []⟩ (ps.zip us)
  exact B s us (by rw [l1, hn])
theorem conv_pos (F : FunD K x qual params body scope [] kws f fd) (hn : ps.length = n)
    (h : ∀ (kV doc pm : Value) (an : Option Addr) (cdv ct : Value) (us : List Value), us.length = ps.length → bindArgs (PySem.W.fnOf x qual params body scope .none kV doc pm an cdv ct) ⟨us, []⟩ = pure (ps.zip us)) :
    Conv K T fd ps n [] (fun ds _ => ds) := ⟨_, _, kbn_pos F hn h, fun _ _ _ _ _ _ _ r _ => r⟩
theorem law_sp {fn : Fn} {H : Hp} {a : Addr} {ns : List Int} (hS : SqL K H a (ns.map V.int)) (h : fn [.lst (ns.map Dt.int)] = some (.ok (.fro (.bl true)))) : spD K T fn [.ref a] H (fun v _ => v = .bl true) (fun _ _ _ => False) := by
  refine ⟨H, [.lst (ns.map Dt.int)], _, Le.refl H, .cons ?_ .nil, h, fun r e v Z' H' _ rr => ?_, fun c es e => (nomatch e)⟩
  · simp only [Rep]
    exact ⟨a, _, rfl, hS, .ints⟩
  · cases e
    simpa only [RRep, Rep] using rr
end
theorem walk_end {l : PySem.W.OpenLaw} {m k : Nat} {q : Program} {loose : List Str} {XP : (Str → Option Value) → Heap → Prop} {YP : World → Heap → Prop} {d : DefRec} {x : Str}
    (hm : l.most = some m) (hm2 : m ≤ sizeLine) (hdf : d.params.defaults = []) (hr : Room k callerA)
    (F : ∀ (w : World) (mg : Str → Option Value) (fa : Addr) (h : Heap), YP w h → h.Ns mainGlobals mg → mg d.name = some (.ref fa) →
      ∃ (K : PySem.W.Frag) (T : Tab) (fd : FuncData) (fn : Fn), K.In h ∧ (∀ (s : Shared) (u : Value), BindsTo s fd ⟨[u], []⟩ [(x, u)]) ∧
        (∀ (ns : List Int), ns.length ≤ m → (∀ z ∈ ns, Builtin.Int.intBits z ≤ 1048576) → fn [.lst (ns.map Dt.int)] = some (.ok (.fro (.bl true)))) ∧
        ∀ base : Heap, K.In base → base.Ns mainGlobals mg → FnOk l.prog w K mg base (L2.CX l.prog w) k fa fd [x] (spD K T fn)) :
    PySem.W.WalkO q loose XP YP l.row.toRowW d [] (fun f vs => PySem.call f vs) := by
  refine Att.attach_callB hm hdf fun w s₀ s₁ mg mb fa o pm cd doc a vs ns Gr Y ho hd hcd hmg hobj hints hlen hbits hg => ?_
  obtain ⟨K, T, fd, fn, KX, hb, hsp, hF⟩ := F w mg fa _ Y Gr.T.g hmg
  refine law_call KX Gr.T.g Gr.T.b Gr.T.builtins Gr.T.nolimit hg hobj hints (Nat.le_trans hlen hm2) hr hF hb (fun H hO hS => law_sp hS (hsp ns hlen hbits)) fun H e s' hx => ?_
  obtain ⟨_, _, _, _, _, _, _, _, _, _, _, _, z⟩ := hx
  exact z
end Pd
set_option maxHeartbeats 2000000
namespace Pd
open PySem PySem.Spec L2
def eCa (n : Nat) (fn : Fn) (fa : FA) : FE := eCall n 0 (fun ds _ => fn ds) fa aNil
section
variable {X : Cx} {T : Tab} {W : WX} {k n : Nat} {fn : Fn} {x : Str} {p pos : Pos} {e : Expr} {es : List Expr} {fa : FA}
end
end Pd
set_option maxHeartbeats 2000000
namespace Pd
open PySem PySem.Spec L2
section
variable {K : PySem.W.Frag} {T : Tab} {x qual : Str} {params : Arguments} {body : List Stmt} {scope : Scope} {dvs : List V} {kws : List (Str × V)} {f : Addr} {fd : FuncData} {ps : List Str}
theorem kbn_dfl (F : FunD K x qual params body scope dvs kws f fd) (n j : Nat) (hd : dvs ≠ []) (hn : n + (dvs.length - j) = ps.length)
    (h : ∀ (T : Addr) (kV doc pm : Value) (an : Option Addr) (cdv ct : Value) (us its : List Value), us.length = n → its.length = dvs.length →
      ∃ k, bindArgs (PySem.W.fnOf x qual params body scope (.ref T) kV doc pm an cdv ct) ⟨us, []⟩ = seqItems? (.ref T) >>= k ∧ k (some its.toArray) = pure (ps.zip (us ++ its.drop j))) :
    ∃ ds, KBn K fd ps n [] (fun us _ => us ++ ds) (fun vs _ => vs ++ dvs.drop j) := by
  obtain ⟨ds, hv, hb⟩ := FunD.binds1 F n j hd hn h
  refine ⟨ds, fun s us ws k l1 l2 => ?_, fun r _ => r.append hv⟩
  show BindsTo s fd ⟨us, []⟩ (ps.zip (us ++ ds))
  refine hb s us k ?_
  have := hv.length
  rw [List.length_drop] at this
  rw [List.length_append]
  omega
theorem convI_dfl (F : FunD K x qual params body scope dvs kws f fd) (n j : Nat) (des : List Dt) (hr : ∀ Z, Reps K T Z des (dvs.drop j)) (hd : dvs ≠ []) (hn : n + 1 + (dvs.length - j) = ps.length)
    (h : ∀ (T : Addr) (kV doc pm : Value) (an : Option Addr) (cdv ct : Value) (us its : List Value), us.length = n + 1 → its.length = dvs.length →
      ∃ k, bindArgs (PySem.W.fnOf x qual params body scope (.ref T) kV doc pm an cdv ct) ⟨us, []⟩ = seqItems? (.ref T) >>= k ∧ k (some its.toArray) = pure (ps.zip (us ++ its.drop j))) :
    ConvI K T fd ps n [] (fun ds _ => ds ++ des) := by
  obtain ⟨ds, h⟩ := kbn_dfl F (n + 1) j hd hn h
  exact ⟨_, _, h, fun Z _ _ vs _ _ _ _ r _ => ⟨vs ++ dvs.drop j, rfl, r.append (hr Z)⟩⟩
end
structure ClsG (P : Program) (w : World) (K : PySem.W.Frag) (mg : Str → Option Value) (base : Heap) (T : Tab) (k : Nat) (x : Str) (c n : Nat) (gD : List Dt → List Dt) (fi : FI) : Prop where
  ex : ∃ f fd ps, mg x = some (.ref (T.ca c)) ∧ PySem.W.keepIn K (.ref (T.ca c)) = true ∧ Mk K (T.ca c) f ∧ ConvI K T fd ps n [] (fun ds _ => gD ds) ∧ FnOk P w K mg base (L2.CX P w) k f fd ps (spI K T c fi)
structure DefG (P : Program) (w : World) (K : PySem.W.Frag) (mg : Str → Option Value) (base : Heap) (T : Tab) (k : Nat) (x : Str) (n : Nat) (gD : List Dt → List Dt) (fn : Fn) : Prop where
  ex : ∃ f fd ps, mg x = some (.ref f) ∧ PySem.W.keepIn K (.ref f) = true ∧ Conv K T fd ps n [] (fun ds _ => gD ds) ∧ FnOk P w K mg base (L2.CX P w) k f fd ps (spD K T fn)
structure MethOk (P : Program) (w : World) (K : PySem.W.Frag) (mg : Str → Option Value) (base : Heap) (T : Tab) (k : Nat) (c : Nat) (m : Str) (n : Nat) (gD : List Dt → List Dt) (fn : Fn) : Prop where
  cls : ClsD K T c
  nofl : m ∉ T.fl c
  ex : ∃ f fd ps, Meth K (T.ca c) m f ∧ Conv K T fd ps n [] (fun ds _ => gD ds) ∧ FnOk P w K mg base (L2.CX P w) k f fd ps (spD K T fn)
section
variable {X : Cx} {T : Tab} {W : WX} {k n : Nat} {fn : Fn} {x : Str} {p pos : Pos} {e : Expr} {es : List Expr} {fa : FA}
theorem pd_callG {gD : List Dt → List Dt} (D : DefG X.prog X.w X.K X.mg X.base T k x n gD fn) (hr : Room k X.A) (tk : Takes X W) (ha : PDA X T W (e :: es) fa) (hg : Gl X x := by rfl)
    (hdb : (x == ("__debug__" : Str)) = false := by decide) (he : starEach (e :: es) X.env = (false, eval e X.env) :: starEach es X.env := by rfl) (hpl : (backTo pos (starEach es X.env)).any (·.1) = false := by rfl) :
    PD X T W (.Call (.Name x p) (e :: es) [] pos) (eCa n (fun ds => fn (gD ds)) fa) := by
  obtain ⟨f, fd, ps, hm, hk, hb, F⟩ := D.ex
  exact pd_callV (callV_fn F hr hb tk) hk hg hm ha hdb he hpl
theorem pd_callCG {c : Nat} {fi : FI} {gD : List Dt → List Dt} (D : ClsG X.prog X.w X.K X.mg X.base T k x c n gD fi) (hr : Room (k + 1) X.A) (tk : Takes X W) (ha : PDA X T W (e :: es) fa) (hg : Gl X x := by rfl)
    (hdb : (x == ("__debug__" : Str)) = false := by decide) (he : starEach (e :: es) X.env = (false, eval e X.env) :: starEach es X.env := by rfl) (hpl : (backTo pos (starEach es X.env)).any (·.1) = false := by rfl) :
    PD X T W (.Call (.Name x p) (e :: es) [] pos) (eCa n (fun ds => mkD c fi (gD ds)) fa) := by
  obtain ⟨f, fd, ps, hm, hk, M, hb, F⟩ := D.ex
  exact pd_callV (callV_make M F hr hb tk) hk hg hm ha hdb he hpl
end
def pickM (ms : Nat → Option Fn) : Rs → Option (Nat × List Dt × Fn)
  | .fro (.ins c ds) => match ms c with
    | some fn => some (c, ds, fn)
    | none => none
  | _ => none
def eMe (ms : Nat → Option Fn) (fo : FE) (fa : FA) : FE := fun ρ => bnd (fo ρ) fun x => match pickM ms x with
  | some (c, ds, fn) => bnd (fa ρ) fun as => fn (.ins c ds :: as)
  | none => none
theorem pickM_inv {ms : Nat → Option Fn} {x : Rs} {c : Nat} {ds : List Dt} {fn : Fn} (h : pickM ms x = some (c, ds, fn)) : x = .fro (.ins c ds) ∧ ms c = some fn := by
  unfold pickM at h
  split at h
  · split at h
    · cases h; exact ⟨rfl, by assumption⟩
    · cases h
  · cases h
section
variable {X : Cx} {T : Tab} {W : WX} {k : Nat} {ms : Nat → Option Fn} {m : Str} {o e : Expr} {es : List Expr} {apos pos : Pos} {fo : FE} {fa : FA}
def MethsOk (X : Cx) (T : Tab) (k : Nat) (m : Str) (n : Nat) (ms : Nat → Option Fn) : Prop :=
  ∀ c fn, ms c = some fn → ∃ gD fn0, MethOk X.prog X.w X.K X.mg X.base T k c m n gD fn0 ∧ fn = fun ds => if ds.length = n then fn0 (gD ds) else none
theorem meth_run {n : Nat} (D : MethsOk X T k m n ms) (hr : Room k X.A) (tk : Takes X W) {pins : List (Addr × Obj)} {s : Shared} {σ : St} {H Z : Hp} {us : List Value} {vs : List V} {c : Nat} {ds as : List Dt} {a : Addr} {fn : Fn} {out : Ex Rs} {Q : VK} (I : Inv X pins σ H s) (zh : Le Z H)
    (rx : Rep X.K T Z (.ins c ds) (.ref a)) (ru : Vals vs us) (rs : Reps X.K T Z as vs) (hm : ms c = some fn) (hf : fn (.ins c ds :: as) = some out) (p : Post X.K T Z H σ W Q out) :
    ∃ f, Meth X.K (T.ca c) m f ∧ wpAny (model X.prog X.w) X.A (call (.ref f) (.ref a :: us)) (EP X pins σ Q) X.xe s := by
  obtain ⟨gD, fn0, M, rfl⟩ := D c fn hm
  obtain ⟨f, fd, ps, Mf, hb, F⟩ := M.ex
  refine ⟨f, Mf, ?_⟩
  have hl : (Dt.ins c ds :: as).length = n := by
    dsimp only at hf
    split at hf
    · assumption
    · cases hf
  dsimp only at hf
  rw [if_pos hl] at hf
  exact callV_fn F hr hb tk pins s σ H Z (.ref a :: us) [] (.ref a :: vs) [] (.ins c ds :: as) [] out Q I zh (.cons rfl ru) .nil (.cons rx rs) .nil hl rfl hf p
theorem ins_of {K : PySem.W.Frag} {Z : Hp} {c : Nat} {ds : List Dt} {v : V} (h : Rep K T Z (.ins c ds) v) : ∃ a dx vs, v = .ref a ∧ Z a = some (.ins (T.ca c) dx ((T.fl c).zip vs)) := by
  simp only [Rep] at h
  obtain ⟨a, dx, vs, rfl, h1, _⟩ := h
  exact ⟨a, dx, vs, rfl, h1⟩
theorem tDA_of {K : PySem.W.Frag} {H0 Z H : Hp} {Z0 : Hx} {env : PEnv} {σ : St} {Q : VK} {out : Ex Rs} {G : List V → Hp → Prop} {kk : List Dt → M Rs} (h : bnd (fa env) kk = some out) (s : SI K T H0 Z0 env σ Z H) (p : Post K T Z H σ W Q out)
    (go : ∀ ds vs Z1 H1, kk ds = some out → Ext4 Z H Z1 H1 → Reps K T Z1 ds vs → G vs H1) : tDA K T W fa σ H G := by
  rcases bnd_cases h with ⟨c, ds, e1, e2⟩ | ⟨ds, e1, e2⟩
  · exact ⟨H0, Z0, env, Z, _, e1, s, fun r q => (nomatch q), fun c' ds' q cls d Z' H' e x => by cases q; exact p.ex _ _ e2 cls d Z' H' e x⟩
  · exact ⟨H0, Z0, env, Z, _, e1, s, fun ds' q vs Z1 H1 x1 rs => by cases q; exact go ds vs Z1 H1 e2 x1 rs, fun c' ds' q => (nomatch q)⟩
theorem pd_meth {pl : Sem Bool} (D : MethsOk X T k m ((e :: es).length + 1) ms) (hr : Room k X.A) (tk : Takes X W) (ho : PD X T W o fo) (ha : PDA X T W (e :: es) fa)
    (hst : starEach (e :: es) X.env = (false, eval e X.env) :: starEach es X.env := by rfl) (hpl : (backTo pos (starEach es X.env)).any (·.1) = false := by rfl)
    (ht : eval (.Call (.Attribute o m apos) (e :: es) [] pos) X.env = (do
      let ov ← eval o X.env
      standAt apos.atName
      let (g, first) ← holding [ov] (getMethod ov m pl)
      callWith pos g first (backTo pos (starEach (e :: es) X.env)) (backToKw pos (keywordEach [] X.env))) := by rfl) :
    PD X T W (.Call (.Attribute o m apos) (e :: es) [] pos) (eMe ms fo fa) := by
  refine ⟨fun pins s σ H Q I h => ?_⟩
  obtain ⟨H0, Z0, env, Z, out, h, s0, po⟩ := h
  refine PySem.W.methodCall_KW (pl := pl) (thn (ho.run pins s σ H (fun v H1 => ∃ c ds fn a Z1, Ext4 Z H Z1 H1 ∧ v = .ref a ∧ Rep X.K T Z1 (.ins c ds) (.ref a) ∧ bnd (fa env) (fun as => fn (.ins c ds :: as)) = some out ∧ ms c = some fn) I
    (tD_bnd h s0 po fun r v Z1 H1 hk x1 rr s1 p1 => ?_)) fun u s1 ⟨v, H1, I1, rv, c, ds, fn, a, Z1, x1, ev, rx, hk, hfn⟩ => ?_) ht
  · split at hk
    · rename_i c ds fn hp
      obtain ⟨rfl, hm⟩ := pickM_inv hp
      obtain ⟨a, dx, vs, rfl, _⟩ := ins_of (T := T) rr
      exact ⟨c, ds, fn, a, Z1, x1, rfl, rr, hk, hm⟩
    · cases hk
  · subst ev
    obtain rfl : u = Value.ref a := rv
    obtain ⟨gD, fn0, M, _⟩ := D c fn hfn
    obtain ⟨a', dx, vs, e, hz⟩ := ins_of (T := T) rx
    cases e
    obtain ⟨f, fd, ps, Mf, hb, F⟩ := M.ex
    refine getmeth_ok I1 (x1.zh _ _ hz) M.cls.cls Mf (lookup_no M.nofl) ?_
    refine PySem.W.callWith_K (first := [.ref a]) (h₀ := X.base) I1.ok.mod.kin Mf.kp (thn (ha.run pos pins s1 σ H1 (fun vs2 H2 => ∀ (s2 : Shared) (us : List Value), Inv X pins σ H2 s2 → Vals vs2 us → wpAny (model X.prog X.w) X.A (call (.ref f) (.ref a :: us)) (EP X pins σ Q) X.xe s2) I1 (tDA_of hk (s0.step x1) (po.step x1) fun as vs' Z2 H2 hk2 x2 rs => ?_)) fun us s2 ⟨vs2, H2, I2, r2, q2⟩ => ⟨I2.kIn, q2 s2 us I2 r2⟩) hst hpl
    intro s2 us I2 r2
    obtain ⟨f', Mf', go⟩ := meth_run D hr tk I2 x2.zh (rx.mono x2.zz) r2 rs hfn hk2 (po.step (x1.trans x2))
    have : f' = f := by
      have e1 := Mf.at_
      rw [Mf'.at_] at e1
      cases e1
      rfl
    subst this
    exact go
end
end Pd
set_option maxHeartbeats 2000000
namespace Pd
open PySem PySem.Spec L2
def okR : M Rs → M Rs
  | some (.ok r) => some (.ok r)
  | _ => none
def gAtt (m : Nat → Option Nat) (pr : Nat → Option Fn) : G1 := fun r => match r with
  | .fro (.ins c ds) => match m c with
    | some j => match ds[j]? with
      | some d => some (.ok (.fro d))
      | none => none
    | none => match pr c with
      | some fn => okR (fn [.ins c ds])
      | none => none
  | _ => none
theorem okR_inv {m : M Rs} {out : Ex Rs} (h : okR m = some out) : ∃ r, m = some (.ok r) ∧ out = .ok r := by
  unfold okR at h
  split at h
  · cases h; exact ⟨_, rfl, rfl⟩
  · cases h
structure PropOk (P : Program) (w : World) (K : PySem.W.Frag) (mg : Str → Option Value) (base : Heap) (T : Tab) (k : Nat) (c : Nat) (f : Str) (fn : Fn) : Prop where
  cls : ClsD K T c
  ex : ∃ p g fd ps, PropOf K (T.ca c) f p g ∧ Binds K fd ps [] ∧ FnOk P w K mg base (L2.CX P w) k g fd ps (spD K T fn)
section
variable {X : Cx} {T : Tab} {W : WX} {k : Nat} {e : Expr} {fa : FE} {f : Str} {pos : Pos}
theorem pd_att (m : Nat → Option Nat) (pr : Nat → Option Fn) (hm : ∀ c j, m c = some j → ClsD X.K T c ∧ (T.fl c)[j]? = some f) (hp : ∀ c fn, pr c = some fn → PropOk X.prog X.w X.K X.mg X.base T k c f fn) (hr : Room (k + 1) X.A) (he : PD X T W e fa)
    (hb : attributeBase e f X.env (eval e X.env) = eval e X.env := by rfl) : PD X T W (.Attribute e f pos) (e1 (gAtt m pr) fa) := by
  refine ⟨fun pins s σ H Q I h => ?_⟩
  obtain ⟨H0, Z0, env, Z, out, h, s0, po⟩ := h
  refine attr_of hb (thn (he.run pins s σ H (fun v H1 => ∃ r Z1, gAtt m pr r = some out ∧ Ext4 Z H Z1 H1 ∧ RRep X.K T H Z1 H1 v r) I (tD_bnd h s0 po fun r v Z1 H1 hk x1 rr s1 p1 => ⟨r, Z1, hk, x1, rr⟩)) fun u s1 ⟨v, H1, I1, rv, r, Z1, hk, x1, rr⟩ => ?_)
  have p1 := po.step x1
  unfold gAtt at hk
  split at hk
  · rename_i c ds
    simp only [RRep, Rep] at rr
    obtain ⟨a, dx, vs, rfl, h1, h2, h3⟩ := rr
    obtain rfl : u = Value.ref a := rv
    split at hk
    · rename_i j hj
      split at hk
      · rename_i d hd
        cases hk
        obtain ⟨C, hf⟩ := hm _ _ hj
        obtain ⟨w, h4, h5⟩ := h3.get hd
        exact getattr_ok I1 (x1.zh _ _ h1) C.cls (C.no _ (List.mem_of_getElem? hf)) (lookup_zip C.nd hf h4) fun u' s2 I2 ru => ⟨w, H1, I2, ru, p1.fro x1.zh h5⟩
      · cases hk
    · split at hk
      · rename_i fn hfn
        obtain ⟨r, e1, rfl⟩ := okR_inv hk
        have Pk := hp _ _ hfn
        obtain ⟨p, g, fd, ps, hpo, hb', F⟩ := Pk.ex
        have hsp : spD X.K T fn [.ref a] H1 Q (fun _ _ _ => False) := ⟨Z1, [.ins c ds], _, x1.zh, .cons (by simp only [Rep]; exact ⟨a, dx, vs, rfl, h1, h2, h3⟩) .nil, e1, fun r e => by cases e; exact p1.ok _ rfl, fun c es e => (nomatch e)⟩
        exact getprop_ok (dvs := []) (ds := []) I1 (x1.zh _ _ h1) Pk.cls.cls hpo F hr hb' .nil (fun _ _ _ _ _ _ _ hx => by
          obtain ⟨_, _, _, _, _, _, _, _, _, _, _, _, z⟩ := hx
          exact z) hsp
      · cases hk
  · cases hk
end
def rOwnD (K : PySem.W.Frag) (T : Tab) (okD : Nat → Dt → Bool) (ops : Nat → Option Fn) : R2 := fun x y H Q => ∃ Z c ds d fn r, Le Z H ∧ Rep K T Z (.ins c ds) x ∧ Rep K T Z d y ∧ okD c d = true ∧ ops c = some fn ∧ fn [.ins c ds, d] = some (.ok r) ∧
  ∀ v Z' H', Ext4 Z H Z' H' → RRep K T H Z' H' v r → Q v H'
section
variable {X : Cx} {T : Tab} {k : Nat} {okD : Nat → Dt → Bool} {ops : Nat → Option Fn} {m : Str}
theorem own_call (D : MethsOk X T k m 2 ops) (hr : Room k X.A) {pins : List (Addr × Obj)} {s : Shared} {σ : St} {H Z : Hp} {a : Addr} {c : Nat} {ds : List Dt} {d : Dt} {y : V} {u : Value} {fn : Fn} {r : Rs} {Q : VK} (I : Inv X pins σ H s) (zh : Le Z H) (rx : Rep X.K T Z (.ins c ds) (.ref a)) (rd : Rep X.K T Z d y) (ry : RelV y u)
    (hm : ops c = some fn) (hf : fn [.ins c ds, d] = some (.ok r)) (q : ∀ v Z' H', Ext4 Z H Z' H' → RRep X.K T H Z' H' v r → Q v H') :
    ∃ f, Meth X.K (T.ca c) m f ∧ wpAny (model X.prog X.w) X.A (call (.ref f) [.ref a, u]) (PySem.W.CmpBack (EP X pins σ Q)) X.xe s := by
  obtain ⟨f, Mf, go⟩ := meth_run (W := W0) D hr takes_W0 I zh rx (.cons ry .nil) (.cons rd .nil) hm hf ⟨fun r' e => by cases e; exact q, fun c es e => (nomatch e)⟩
  refine ⟨f, Mf, wpAny_mono go (fun w s' z => ?_) fun _ _ x => x⟩
  obtain ⟨v, H', I', rv, qv⟩ := z
  exact SlX.cmpback rv ⟨v, H', I', rv, qv⟩
theorem inst_of {pins : List (Addr × Obj)} {s : Shared} {σ : St} {H : Hp} {a dx C : Addr} {fs : List (Str × V)} (I : Inv X pins σ H s) (h : H a = some (.ins C dx fs)) : ∃ ox od, PySem.W.InstAt s.heap a ox C (some od) := by
  obtain ⟨mA, J, _⟩ := ins_get I.hok h
  obtain ⟨od, J, _⟩ := J.look
  exact ⟨_, od, J⟩
def eqKind (ns : List String) (c : Nat) (d : Dt) : Bool := match typD d with
  | some (.ty n) => ns.contains n
  | some (.own c') => decide (c' = c)
  | none => false
theorem op_ownEq {op : CmpOp} {ns : List String} (hop : ∀ a b, compareOp op a b = richCompare op a b) (hm : (cmpInfo op).2.1 = m) (D : MethsOk X T k m 2 ops) (hr : Room k X.A) (nf : ∀ c fn, ops c = some fn → (∀ n ∈ ns, PySem.W.notFirst X.K (T.ca c) (.type n) = true) ∧ IsiC X.K T c) :
    OpR X (compareOp op) (rOwnD X.K T (eqKind ns) ops) := by
  intro pins s σ H x y v u Q I rx ry ⟨Z, c, ds, d, fn, r, zh, dx, dy, ho, hfn, hf, q⟩
  obtain ⟨a, dx', vs, rfl, hz⟩ := ins_of (T := T) dx
  obtain rfl : v = Value.ref a := rx
  obtain ⟨f, Mf, go⟩ := own_call D hr I zh dx dy ry hfn hf q
  obtain ⟨mm, hF⟩ := I.fr
  obtain ⟨ox, od, J⟩ := inst_of I (zh _ _ hz)
  obtain ⟨n1, n2⟩ := nf _ _ hfn
  obtain ⟨t, ht, hty, hnt⟩ : ∃ t, typD d = some t ∧ (∀ c', t = .own c' → c' = c) ∧ PySem.W.notFirst X.K (T.ca c) (t.val T) = true := by
    unfold eqKind at ho
    split at ho
    · rename_i n e
      exact ⟨_, e, fun c' z => (nomatch z), n1 _ (by simpa using ho)⟩
    · rename_i c' e
      have : c' = c := by simpa using ho
      subst this
      exact ⟨_, e, fun c2 z => by cases z; rfl, by simp [CR.val, PySem.W.notFirst]⟩
    · cases ho
  have ty := typR_ok (B := H) (r := .fro d) (t := t) (fun c' e => by rw [hty c' e]; exact n2) zh (by simpa only [RRep] using dy) ht
  obtain ⟨PP, kx, kp, _⟩ := kit_of I ry ty
  rw [hop]
  refine PySem.W.cmp_K (op := op) hr.units0 hF I.ok.mod.kin J (kx.ty _ _ I.kIn kp) hnt (by rw [hm]; exact Mf.at_) Mf.fn go
end
end Pd
set_option maxHeartbeats 2000000
namespace Pd
open PySem PySem.Spec L2
def behind (w : String) (C m : Str) (K : PySem.W.Frag) : Addr := match PySem.W.recIn K (He.ma K (He.ga K C) m) w with
  | some (.ref g :: _) => g
  | _ => 0
def atG (x : Str) (K : PySem.W.Frag) : Addr := He.ga K x
def atM (C m : Str) (K : PySem.W.Frag) : Addr := He.ma K (He.ga K C) m
structure DefP where
  loc : PySem.W.Frag → Addr
  nm : Str
  qn : Str
  par : Arguments
  bod : List Stmt
  sco : Scope
  df : List He.Dv := []
abbrev Told : Type := Option (Str × Str × Arguments × FuncBody × Scope × Addr × List (Str × Addr) × Addr)
def seenAt (K : PySem.W.Frag) (a : Addr) : Told := match K.lookup a with
  | some o => (match o.data with
    | .func fd => some (fd.name, fd.qualname, fd.params, fd.body, fd.scope, fd.globals, fd.closure, fd.builtins)
    | _ => none)
  | none => none
def DefP.want (d : DefP) : Told := some (d.nm, d.qn, d.par, .stmts d.bod, d.sco, mainGlobals, [], builtinsNs)
def DefP.dv (d : DefP) (K : PySem.W.Frag) : List V := d.df.map fun q => q.v K
def DefP.good (d : DefP) (K : PySem.W.Frag) : Bool := PySem.W.keepIn K (.ref (d.loc K)) && match K.lookup (d.loc K) with
  | some o => (match o.data with
    | .func fd => PySem.W.codeIn K fd.code d.qn && He.dflB K fd.defaults (d.dv K)
    | _ => false)
  | none => false
theorem DefP.fund {d : DefP} {K : PySem.W.Frag} (e : seenAt K (d.loc K) = d.want) (g : d.good K = true) : ∃ fd, FunD K d.nm d.qn d.par d.bod d.sco (d.dv K) [] (d.loc K) fd := by
  unfold DefP.good at g
  obtain ⟨kp, g2⟩ := Bool.and_eq_true_iff.mp g
  unfold seenAt at e
  generalize hl : K.lookup (d.loc K) = o at e g2
  match o, e, g2 with
  | some ⟨oc, od, .func ⟨n1, n2, n3, n4, n5, n6, n7, n8, n9, n10, n11, n12, n13, n14, n15⟩, osl⟩, e, g2 =>
    have e2 : (some (n1, n2, n3, n4, n5, n6, n7, n15) : Told) = some (d.nm, d.qn, d.par, .stmts d.bod, d.sco, mainGlobals, [], builtinsNs) := e
    simp only [Option.some.injEq, Prod.mk.injEq] at e2
    obtain ⟨h1, h2, h3, h4, h5, h6, h7, h8⟩ := e2
    subst h1 h2 h3 h4 h5 h6 h7 h8
    have g3 : (PySem.W.codeIn K n13 d.qn && He.dflB K n8 (d.dv K)) = true := g2
    obtain ⟨k1, k2⟩ := Bool.and_eq_true_iff.mp g3
    exact ⟨_, ⟨oc, od, n8, n9, n10, n11, n12, n13, n14, osl, rfl, hl, k1, He.dflB_ok k2, .inl rfl⟩, kp⟩
abbrev AlP : Type := Bool × List Told
def lookP (fa : List He.Fa) (fn : List DefP) (ex : PySem.W.Frag → Bool) (K : PySem.W.Frag) : AlP := ((fa.all fun q => q.ok K) && ((fn.all fun d => d.good K) && ex K), fn.map fun d => seenAt K (d.loc K))
def askP (fn : List DefP) : AlP := (true, fn.map DefP.want)
def TellsP (fa : List He.Fa) (fn : List DefP) (ex : PySem.W.Frag → Bool) (K : PySem.W.Frag) : Prop := lookP fa fn ex K = askP fn
section
variable {fa : List He.Fa} {fn : List DefP} {ex : PySem.W.Frag → Bool} {K : PySem.W.Frag}
theorem TellsP.fact (c : TellsP fa fn ex K) (i : Nat) {q : He.Fa} (h : fa[i]? = some q := by rfl) : q.ok K = true := by
  have h1 := Bool.and_eq_true_iff.mp (congrArg (fun z : AlP => z.1) c : _ = true)
  exact List.all_eq_true.mp h1.1 q (List.mem_of_getElem? h)
theorem TellsP.more (c : TellsP fa fn ex K) : ex K = true := by
  have h1 := Bool.and_eq_true_iff.mp (congrArg (fun z : AlP => z.1) c : _ = true)
  exact (Bool.and_eq_true_iff.mp h1.2).2
theorem TellsP.fun_ (c : TellsP fa fn ex K) (i : Nat) {d : DefP} (h : fn[i]? = some d := by rfl) : ∃ fd, FunD K d.nm d.qn d.par d.bod d.sco (d.dv K) [] (d.loc K) fd := by
  have h1 := Bool.and_eq_true_iff.mp (congrArg (fun z : AlP => z.1) c : _ = true)
  have g := List.all_eq_true.mp (Bool.and_eq_true_iff.mp h1.2).1 d (List.mem_of_getElem? h)
  have e : fn.map (fun d => seenAt K (d.loc K)) = fn.map DefP.want := congrArg (fun z : AlP => z.2) c
  have e2 := congrArg (fun l => l[i]?) e
  simp only [List.getElem?_map, h, Option.map_some, Option.some.injEq] at e2
  exact DefP.fund e2 g
end
def bltB (x : Str) (id : String) (K : PySem.W.Frag) : Bool := He.eqO (PySem.W.nsIn K mainGlobals x) (some (some (.builtin id)))
theorem bltB_ok {x : Str} {id : String} {K : PySem.W.Frag} {h : Heap} {mg : Str → Option Value} (X : K.In h) (G : h.Ns mainGlobals mg) (c : bltB x id K = true) : mg x = some (.builtin id) := PySem.W.mg_of X G (He.eqO_ok c)
def propB (C f : Str) (K : PySem.W.Frag) : Bool := He.eqO (PySem.W.findIn K (.ref (He.ga K C)) f) (some (some (.ref (atM C f K)))) && (He.eqO (PySem.W.specialIn K (.ref (atM C f K)) "__get__") (some (some (.builtin "property.__get__"))) &&
  (decide (PySem.W.takesIn K (.ref (atM C f K)) = some true) && match PySem.W.recIn K (atM C f K) "property" with
    | some (.ref g :: _) => decide (g = behind "property" C f K)
    | _ => false))
theorem propB_ok {C f : Str} {K : PySem.W.Frag} (c : propB C f K = true) : PropOf K (He.ga K C) f (atM C f K) (behind "property" C f K) := by
  unfold propB at c
  simp only [Bool.and_eq_true] at c
  obtain ⟨c1, c2, c3, c4⟩ := c
  refine ⟨He.eqO_ok c1, He.eqO_ok c2, of_decide_eq_true c3, ?_⟩
  split at c4
  · rename_i g rest e
    rw [of_decide_eq_true c4] at e
    exact ⟨rest, e⟩
  · cases c4
def isiB (C : Str) (K : PySem.W.Frag) : Bool := He.eqO (PySem.W.findIn K (.ref (He.ga K C)) "__class__") (some (some (.builtin "object.__class__"))) && decide (PySem.W.mroIn K (He.ga K C) (.type "object") = some true)
def isi0 (K : PySem.W.Frag) : Bool := He.eqO (PySem.W.specialIn K (.builtin "object.__class__") "__get__") (some (some (.builtin "getset_descriptor.__get__"))) && decide (PySem.W.takesIn K (.builtin "object.__class__") = some true)
theorem isiB_ok {T : Tab} {c : Nat} {C : Str} {K : PySem.W.Frag} (hc : Cls K (T.ca c)) (hT : T.ca c = He.ga K C) (c0 : isi0 K = true) (cc : isiB C K = true) : IsiC K T c := by
  obtain ⟨a1, a2⟩ := Bool.and_eq_true_iff.mp c0
  obtain ⟨b1, b2⟩ := Bool.and_eq_true_iff.mp cc
  exact ⟨hc, by rw [hT]; exact He.eqO_ok b1, He.eqO_ok a1, of_decide_eq_true a2, by rw [hT]; exact of_decide_eq_true b2⟩
def kitCC (C D : Str) (b : Bool) (K : PySem.W.Frag) : Bool := decide (PySem.W.kitOne K (.ref (He.ga K C)) (.ref (He.ga K D)) = some b)
theorem look_mem {c : Nat} {r : Bool} : ∀ {cs : List (Nat × Bool)}, cs.lookup c = some r → (c, r) ∈ cs
  | [], h => by cases h
  | (d, b) :: cs, h => by
    by_cases e : c = d
    · subst e
      simp [List.lookup] at h
      subst h
      exact List.mem_cons_self
    · have eb : (c == d) = false := beq_eq_false_iff_ne.mpr e
      simp only [List.lookup, eb] at h
      exact List.mem_cons_of_mem _ (look_mem h)
def ansC (ns : List String) (cs : List (Nat × Bool)) : CR → Option Bool
  | .ty m => if ns.contains m then some false else none
  | .own c => cs.lookup c
theorem ansB_ok {K : PySem.W.Frag} {T : Tab} {n : String} {cs : List Nat} (h : ∀ c ∈ cs, PySem.W.kitOne K (.ref (T.ca c)) (.type n) = some false) : ∀ t r, ansB n cs t = some r → PySem.W.kitOne K (t.val T) ((CR.ty n).val T) = some r := by
  intro t r e
  cases t with
  | ty m => exact kit_ty e
  | own c =>
    have e2 : (if cs.contains c then some false else none) = some r := e
    split at e2
    · rename_i hc
      cases e2
      exact h c (by simpa using hc)
    · cases e2
theorem ansC_ok {K : PySem.W.Frag} {T : Tab} {d : Nat} {ns : List String} {cs : List (Nat × Bool)} (h1 : ∀ n ∈ ns, PySem.W.kitOne K (.type n) (.ref (T.ca d)) = some false) (h2 : ∀ q ∈ cs, PySem.W.kitOne K (.ref (T.ca q.1)) (.ref (T.ca d)) = some q.2) :
    ∀ t r, ansC ns cs t = some r → PySem.W.kitOne K (t.val T) ((CR.own d).val T) = some r := by
  intro t r e
  cases t with
  | ty m =>
    have e2 : (if ns.contains m then some false else none) = some r := e
    split at e2
    · rename_i hc
      cases e2
      exact h1 m (by simpa using hc)
    · cases e2
  | own c =>
    have e2 : cs.lookup c = some r := e
    exact h2 (c, r) (look_mem e2)
end Pd
set_option maxHeartbeats 2000000
namespace Pd
open PySem PySem.Spec L2
def FxP (fa : List He.Fa) (fn : List DefP) (bs : List (PySem.W.Frag → Bool)) (P : Program) (K : PySem.W.Frag) (mg : Str → Option Value) : Prop := P.given.tree = none ∧ ∃ h : Heap, K.In h ∧ h.Ns mainGlobals mg ∧ TellsP fa fn (fun K => bs.all fun b => b K) K
section
variable {fa : List He.Fa} {fn : List DefP} {bs : List (PySem.W.Frag → Bool)} {P : Program} {K : PySem.W.Frag} {mg : Str → Option Value} {T : Tab}
theorem FxP.free (fx : FxP fa fn bs P K mg) (i : Nat) {x : Str} (h : fa[i]? = some (.free x) := by rfl) : mg x = none := by
  obtain ⟨_, hp, X, G, c⟩ := fx
  exact He.free_ok X G (c.fact i h)
theorem FxP.glo (fx : FxP fa fn bs P K mg) (i : Nat) {x : Str} (h : fa[i]? = some (.glo x) := by rfl) : mg x = some (.ref (He.ga K x)) := by
  obtain ⟨_, hp, X, G, c⟩ := fx
  exact He.glo_ok X G (c.fact i h)
theorem FxP.fact (fx : FxP fa fn bs P K mg) (i : Nat) {q : He.Fa} (h : fa[i]? = some q := by rfl) : q.ok K = true := by
  obtain ⟨_, hp, X, G, c⟩ := fx
  exact c.fact i h
theorem FxP.bool (fx : FxP fa fn bs P K mg) (i : Nat) {b : PySem.W.Frag → Bool} (h : bs[i]? = some b := by rfl) : b K = true := by
  obtain ⟨_, hp, X, G, c⟩ := fx
  exact List.all_eq_true.mp c.more b (List.mem_of_getElem? h)
theorem FxP.blt (fx : FxP fa fn bs P K mg) (i : Nat) {x : Str} {id : String} (h : bs[i]? = some (bltB x id) := by rfl) : mg x = some (.builtin id) := by
  have b := fx.bool i h
  obtain ⟨_, hp, X, G, c⟩ := fx
  exact bltB_ok X G b
theorem FxP.fun_ (fx : FxP fa fn bs P K mg) (i : Nat) {d : DefP} (h : fn[i]? = some d := by rfl) : ∃ fd, FunD K d.nm d.qn d.par d.bod d.sco (d.dv K) [] (d.loc K) fd := by
  obtain ⟨_, hp, X, G, c⟩ := fx
  exact c.fun_ i h
theorem FxP.cls (fx : FxP fa fn bs P K mg) (i : Nat) {x : Str} (h : fa[i]? = some (.cls x) := by rfl) : Cls K (He.ga K x) := He.cls_ok (fx.fact i h)
theorem FxP.noat (fx : FxP fa fn bs P K mg) (i : Nat) {x f : Str} (h : fa[i]? = some (.noat x f) := by rfl) : NoAttr K (He.ga K x) f := He.noat_ok (fx.fact i h)
theorem FxP.meth (fx : FxP fa fn bs P K mg) (i : Nat) {x m : Str} (h : fa[i]? = some (.meth x m) := by rfl) : Meth K (He.ga K x) m (atM x m K) := He.meth_ok (fx.fact i h)
theorem FxP.mkr (fx : FxP fa fn bs P K mg) (i : Nat) {x : Str} (h : fa[i]? = some (.mkr x) := by rfl) : Mk K (He.ga K x) (atM x "__init__" K) := He.mkr_ok (fx.fact i h)
theorem law_of {h : Heap} {f : Addr} (X : K.In h) (G : h.Ns mainGlobals mg) (c : TellsP fa fn (fun K => bs.all fun b => b K) K) {x : Str} (hfa : mg x = some (.ref f)) (i j : Nat) {d : DefP} (h1 : fn[i]? = some d) (h2 : fa[j]? = some (.glo x)) (hl : d.loc K = He.ga K x) (hd : d.df = [])
    {p : Str} (hb : ∀ (kV doc pm : Value) (an : Option Addr) (cdv ct : Value) (us : List Value), us.length = 1 → bindArgs (PySem.W.fnOf d.nm d.qn d.par d.bod d.sco .none kV doc pm an cdv ct) ⟨us, []⟩ = pure ([p].zip us)) :
    ∃ fd, FunD K d.nm d.qn d.par d.bod d.sco [] [] f fd ∧ ∀ (s : Shared) (v : Value), BindsTo s fd ⟨[v], []⟩ [(p, v)] := by
  obtain ⟨fd, F⟩ := c.fun_ i h1
  have e := hfa.symm.trans (He.glo_ok X G (c.fact j h2))
  cases e
  have F2 : FunD K d.nm d.qn d.par d.bod d.sco [] [] (He.ga K x) fd := by
    rw [← hl]
    have : d.dv K = [] := by unfold DefP.dv; rw [hd]; rfl
    rw [← this]
    exact F
  exact ⟨fd, F2, fun s v => FunD.bindsA (ps := [p]) F2 hb s [v] rfl⟩
theorem convI_full {fd : FuncData} {ps ks : List Str} {n : Nat} (h : ConvI K T fd ps n ks (fun ds _ => ds ++ [])) : ConvI K T fd ps n ks (fun ds _ => ds) := by
  simpa only [List.append_nil] using h
end
section
variable {X : Cx} {T : Tab} {W : WX} {a : Expr} {fa : FE} {p q2 pos : Pos}
theorem pd_isT (n : String) (cs : List Nat) (hk : ∀ c ∈ cs, PySem.W.kitOne X.K (.ref (T.ca c)) (.type n) = some false ∧ IsiC X.K T c) (hm : X.mg "isinstance" = none) (hmn : X.mg (Str.ofString n) = none) (ha : PD X T W a fa) (hv : bootBuiltins (Str.ofString n) = some (.type n)) (hgn : Gl X (Str.ofString n) := by rfl)
    (hnn : (Str.ofString n) ≠ "__name__" := by decide) (hd : ((Str.ofString n) == ("__debug__" : Str)) = false := by decide)
    (hg : Gl X "isinstance" := by rfl) (hs : starEach (a :: [.Name (Str.ofString n) q2]) X.env = (false, eval a X.env) :: starEach [.Name (Str.ofString n) q2] X.env := by rfl) (hs2 : starEach (.Name (Str.ofString n) q2 :: []) X.env = (false, eval (.Name (Str.ofString n) q2) X.env) :: starEach [] X.env := by rfl)
    (hpl : (backTo pos (starEach [.Name (Str.ofString n) q2] X.env)).any (·.1) = false := by rfl) : PD X T W (.Call (.Name "isinstance" p) [a, .Name (Str.ofString n) q2] [] pos) (e1 (gIsi (ansB n cs)) fa) :=
  pd_isi (.ty n) (ansB_ok fun c hc => (hk c hc).1) (fun c r h => by
    have e2 : (if cs.contains c then some false else none) = some r := h
    split at e2
    · rename_i hc
      exact (hk c (by simpa using hc)).2
    · cases e2) hm ha (pe_bltn hgn hmn hv rfl hnn hd) hg hs hs2 hpl
theorem pd_isC (d : Nat) (ns : List String) (cs : List (Nat × Bool)) {x : Str} (h1 : ∀ n ∈ ns, PySem.W.kitOne X.K (.type n) (.ref (T.ca d)) = some false) (h2 : ∀ q ∈ cs, PySem.W.kitOne X.K (.ref (T.ca q.1)) (.ref (T.ca d)) = some q.2 ∧ IsiC X.K T q.1)
    (hm : X.mg "isinstance" = none) (hx : X.mg x = some (.ref (T.ca d))) (ha : PD X T W a fa) (hgx : Gl X x := by rfl) (hdb : (x == ("__debug__" : Str)) = false := by decide)
    (hg : Gl X "isinstance" := by rfl) (hs : starEach (a :: [.Name x q2]) X.env = (false, eval a X.env) :: starEach [.Name x q2] X.env := by rfl) (hs2 : starEach (.Name x q2 :: []) X.env = (false, eval (.Name x q2) X.env) :: starEach [] X.env := by rfl)
    (hpl : (backTo pos (starEach [.Name x q2] X.env)).any (·.1) = false := by rfl) : PD X T W (.Call (.Name "isinstance" p) [a, .Name x q2] [] pos) (e1 (gIsi (ansC ns cs)) fa) :=
  pd_isi (.own d) (ansC_ok h1 fun q hq => (h2 q hq).1) (fun c r h => (h2 (c, r) (look_mem h)).2) hm ha (pe_glob hgx hx rfl hdb) hg hs hs2 hpl
end
end Pd
set_option maxHeartbeats 2000000
namespace Pd
open PySem PySem.Spec L2
def tbl {α : Type} (l : List (Nat × α)) (c : Nat) : Option α := l.lookup c
theorem tbl_mem {α : Type} {c : Nat} {r : α} : ∀ {l : List (Nat × α)}, tbl l c = some r → (c, r) ∈ l
  | [], h => by cases h
  | (d, b) :: l, h => by
    by_cases e : c = d
    · subst e
      have h2 : ((c, b) :: l).lookup c = some r := h
      simp [List.lookup] at h2
      subst h2
      exact List.mem_cons_self
    · have eb : (c == d) = false := beq_eq_false_iff_ne.mpr e
      have h2 : ((d, b) :: l).lookup c = some r := h
      simp only [List.lookup, eb] at h2
      exact List.mem_cons_of_mem _ (tbl_mem h2)
theorem tbl_all {α : Type} {l : List (Nat × α)} {Q : Nat → α → Prop} (h : ∀ q ∈ l, Q q.1 q.2) : ∀ c r, tbl l c = some r → Q c r := fun c r e => h (c, r) (tbl_mem e)
theorem all_nil {β : Type} {Q : β → Prop} : ∀ q ∈ ([] : List β), Q q := fun q h => (nomatch h)
theorem all_cons {β : Type} {Q : β → Prop} {a : β} {l : List β} (h : Q a) (t : ∀ q ∈ l, Q q) : ∀ q ∈ a :: l, Q q := fun q hq => by
  rcases List.mem_cons.mp hq with e | e
  · rw [e]; exact h
  · exact t q e
def mfn (n : Nat) (gD : List Dt → List Dt) (fn : Fn) : Fn := fun ds => if ds.length = n then fn (gD ds) else none
section
variable {P : Program} {w : World} {K : PySem.W.Frag} {mg : Str → Option Value} {base : Heap} {T : Tab} {j k c n : Nat} {m f : Str} {gD : List Dt → List Dt} {fn : Fn}
theorem MethOk.mono (h : MethOk P w K mg base T j c m n gD fn) (hj : j ≤ k) : MethOk P w K mg base T k c m n gD fn := by
  obtain ⟨h1, h2, g, fd, ps, a, b, F⟩ := h
  exact ⟨h1, h2, g, fd, ps, a, b, F.mono hj⟩
theorem PropOk.mono (h : PropOk P w K mg base T j c f fn) (hj : j ≤ k) : PropOk P w K mg base T k c f fn := by
  obtain ⟨h1, p, g, fd, ps, a, b, F⟩ := h
  exact ⟨h1, p, g, fd, ps, a, b, F.mono hj⟩
theorem ClsG.mono {x : Str} {fi : FI} (h : ClsG P w K mg base T j x c n gD fi) (hj : j ≤ k) : ClsG P w K mg base T k x c n gD fi := by
  obtain ⟨g, fd, ps, a, b, d, e, F⟩ := h
  exact ⟨g, fd, ps, a, b, d, e, F.mono hj⟩
theorem DefG.mono {x : Str} (h : DefG P w K mg base T j x n gD fn) (hj : j ≤ k) : DefG P w K mg base T k x n gD fn := by
  obtain ⟨g, fd, ps, a, b, d, F⟩ := h
  exact ⟨g, fd, ps, a, b, d, F.mono hj⟩
end
section
variable {X : Cx} {T : Tab} {k c n : Nat} {m : Str} {gD : List Dt → List Dt} {fn : Fn} {l : List (Nat × Fn)}
theorem meths_nil : MethsOk X T k m n (tbl []) := fun c fn h => (nomatch h)
theorem meths_cons (h : MethOk X.prog X.w X.K X.mg X.base T k c m n gD fn) (t : MethsOk X T k m n (tbl l)) : MethsOk X T k m n (tbl ((c, mfn n gD fn) :: l)) := fun c' fn' h' => by
  by_cases e : c' = c
  · subst e
    have h2 : ((c', mfn n gD fn) :: l).lookup c' = some fn' := h'
    simp [List.lookup] at h2
    subst h2
    exact ⟨gD, fn, h, rfl⟩
  · have eb : (c' == c) = false := beq_eq_false_iff_ne.mpr e
    have h2 : ((c, mfn n gD fn) :: l).lookup c' = some fn' := h'
    simp only [List.lookup, eb] at h2
    exact t c' fn' h2
end
end Pd
set_option maxHeartbeats 2000000
namespace Pd
open PySem PySem.Spec L2
def sRaise (c : Nat) : FS := fun ρ => some (.xc c [] ρ)
structure ExcK (K : PySem.W.Frag) (C : Addr) : Prop where
  ex : PySem.W.excIn K C He.veBase "ValueError.__new__" = true ∧ PySem.W.keepIn K (.ref C) = true ∧ PySem.W.subIn K (.ref C) (.type "BaseException") = some true ∧ PySem.W.typeIn K (.ref C) = some (.type "type")
theorem FxP.exc {fa : List He.Fa} {fn : List DefP} {bs : List (PySem.W.Frag → Bool)} {P : Program} {K : PySem.W.Frag} {mg : Str → Option Value} (fx : FxP fa fn bs P K mg) (i : Nat) {x : Str} (h : fa[i]? = some (.exc x) := by rfl) : ExcK K (He.ga K x) := ⟨He.exc_ok (fx.fact i h)⟩
section
variable {X : Cx} {T : Tab} {W : WX} {x m : Str} {j : Nat} {p p2 pos rpos : Pos}
theorem pds_raise (c : Nat) (hc : X.calm = true) (tk : Takes X W) (k : ExcK X.K (T.ca c)) (gC : X.mg x = some (.ref (T.ca c))) (hg : Gl X x := by rfl) (hdb : (x == ("__debug__" : Str)) = false := by decide) :
    PDS X T W (.Raise (some (.Call (.Name x p) [.Constant (.str m) j p2] [] pos)) none rpos) (sRaise c) := by
  obtain ⟨e1, e2, e3, e4⟩ := k.ex
  refine PS.imp (ps_raise hc tk (pmk_own PySem.F.excBase_ValueError e1 gC e2 (raises_own e3 e4) hg hdb)) fun D σ H ⟨H0, Z0, env, Z, out, h, s, po⟩ => ?_
  cases h
  exact po.xc _ _ _ rfl _ _ σ Z H s ⟨rfl, .inl ⟨rfl, rfl⟩⟩
end
end Pd
set_option maxHeartbeats 2000000
namespace Pd
open PySem PySem.Spec L2
section
variable {X : Cx} {T : Tab} {i : Nat} {a : Addr} {b b' : Bool} {x y : Str} {p q1 q2 pos : Pos} {e e' : Expr} {rest : List Expr}
theorem pd_cat {T : Tab} {W : WX} {a c : Expr} {fa fb : FE} {pos : Pos} (ha : PD X T W a fa) (hb : PD X T W c fb) : PD X T W (.BinOp a .Add c pos) (e2 gCat fa fb) := pd_op op_catL o2_cat ha hb
end
section
variable {X : Cx} {T : Tab} {W : WX} {i : Nat} {x n : Str} {np rp pos pos' : Pos} {E : Expr} {body : List Stmt} {F : FS} {u : Addr}
end
end Pd
set_option maxHeartbeats 2000000
namespace Pd
open PySem PySem.Spec L2 RT
section
variable {K : PySem.W.Frag} {T : Tab} {Z1 H1 : Hp}
end
section
variable {X : Cx} {T : Tab} {W : WX} {tg e : Expr} {f : FE} {p pos : Pos}
end
end Pd
set_option maxHeartbeats 4000000
namespace PySem
open AutoSeq1 (wpAny_loadPart')
section
variable {prog : Program} {w : World} {A : Around} {E : Value → Shared → Prop} {s : Shared}
end
end PySem
set_option maxHeartbeats 4000000
namespace Pd
open PySem PySem.Spec PyProof.Rows L2 RT RZ
end Pd
set_option maxHeartbeats 2000000
namespace Pd
open PySem PySem.Spec PyProof.Rows L2
def nsOkB (a : Addr) (K : PySem.W.Frag) : Bool := match K.lookup a with
  | some ⟨_, _, .dict es _, _⟩ => es.toList.all fun e => match e.key with | .str _ _ => true | _ => false
  | _ => false
def nsNoB (a : Addr) (x : Str) (K : PySem.W.Frag) : Bool := match PySem.W.nsIn K a x with
  | some none => true
  | _ => false
def mainB (K : PySem.W.Frag) : Bool := match PySem.W.nsIn K mainGlobals "__builtins__" with
  | some (some (.ref bm)) => (match K.lookup bm with
    | some ob => (match ob.cls with | .type n => n == "module" | _ => false) && decide (ob.dict = some builtinsNs)
    | none => false)
  | _ => false
def seerB (K : PySem.W.Frag) : Bool := (nsOkB cStatics K && (nsNoB cStatics "sys.audit-hooks" K && nsNoB cStatics "sys.dict" K)) && ((nsOkB sysModules K && nsNoB sysModules "_pylong" K) && mainB K)
theorem nsOkB_ok {a : Addr} {K : PySem.W.Frag} {h : Heap} (X : K.In h) (c : nsOkB a K = true) : ∃ m, h.Ns a m := by
  unfold nsOkB at c
  split at c
  · rename_i cl d es n sl q
    refine ⟨fun x => nsFind es x, _, es, n, X _ _ q, rfl, fun e he => ?_, fun _ => rfl⟩
    have := List.all_eq_true.mp c e (by simpa using he)
    split at this
    · rename_i x t hk; exact ⟨x, t, hk⟩
    · cases this
  · cases c
theorem nsNoB_ok {a : Addr} {x : Str} {K : PySem.W.Frag} {h : Heap} {m : Str → Option Value} (X : K.In h) (G : h.Ns a m) (c : nsNoB a x K = true) : m x = none := by
  have e : PySem.W.nsIn K a x = some none := by
    unfold nsNoB at c
    split at c
    · assumption
    · cases c
  obtain ⟨o, es, ep, ho, hd, _, hf⟩ := G
  unfold PySem.W.nsIn at e
  split at e
  · rename_i c d es' n' sl q
    have := X _ _ q
    rw [ho] at this
    cases this
    cases hd
    split at e
    · cases e
    · rename_i hn
      rw [← hf]
      unfold nsFind findBy
      rw [← Array.find?_toList, hn]
      rfl
  · cases e
theorem seerB_ok {K : PySem.W.Frag} {h : Heap} {mg : Str → Option Value} (X : K.In h) (G : h.Ns mainGlobals mg) (hb : ∃ mb, h.Ns builtinsNs mb ∧ ∀ x : Str, x ≠ "__name__" → mb x = bootBuiltins x) (c : seerB K = true) : h.NoSeer := by
  unfold seerB at c
  simp only [Bool.and_eq_true] at c
  obtain ⟨⟨c1, c2, c3⟩, ⟨c4, c5⟩, c6⟩ := c
  obtain ⟨m1, g1⟩ := nsOkB_ok X c1
  obtain ⟨m2, g2⟩ := nsOkB_ok X c4
  refine ⟨⟨m1, g1, nsNoB_ok X g1 c2, nsNoB_ok X g1 c3⟩, ⟨m2, g2, nsNoB_ok X g2 c5⟩, hb, ?_⟩
  unfold mainB at c6
  split at c6
  · rename_i bm e
    split at c6
    · rename_i ob q
      rw [Bool.and_eq_true] at c6
      obtain ⟨a1, a2⟩ := c6
      refine ⟨mg, bm, ob, G, PySem.W.mg_of X G e, X _ _ q, ?_, of_decide_eq_true a2⟩
      split at a1
      · rename_i n hn
        rw [hn, beq_iff_eq.mp a1]
      · cases a1
    · cases c6
  · cases c6
structure Dvd (X : Cx) : Prop where
  seer : seerB X.K = true
  tree : X.prog.given.tree = none
  room : Room 32 X.A
  stk : ∃ env l, X.stack = env :: l ∧ env.scope.isGenerator = false ∧ env.scope.isCoroutine = false ∧ env.builtins = builtinsNs ∧ env.globals = mainGlobals
theorem op_fdivN {X : Cx} (D : Dvd X) : OpR X (binaryOp .FloorDiv) (rI (fun i j => divOk i j = true) fun i j => .int (i.fdiv j)) := by
  intro pins s σ H x y v u Q I rx ry h
  obtain ⟨i, j, rfl, rfl, hc, q⟩ := h
  obtain ⟨t, rfl⟩ := rx
  obtain ⟨t', rfl⟩ := ry
  have hn : s.heap.NoSeer := by
    obtain ⟨mb, hb1, hb2⟩ := I.ok.mod.blt
    exact seerB_ok I.kIn (I.ok.mod.glob.keeps I.bk) ⟨mb, hb1.keeps I.bk, hb2⟩ D.seer
  obtain ⟨env, l, e1, e2, e3, e4, e5⟩ := D.stk
  have sa : SeerAt (model X.prog X.w) X.A s.heap := SeerAt.of (env := env) (l := l) hn D.tree (by rw [I.ok.frames, e1]) e2 e3 e4 e5
  refine PyProof.Rows.floordiv_int (of_decide_eq_true hc) ?_ (.inr (PylongRoom.of I.nolimit ?_ sa))
  · exact ⟨.int (i.fdiv j), H, I.tok _, ⟨_, rfl⟩, q⟩
  · have := D.room.dp
    have e : Builtin.pylongFrames = 100 := rfl
    omega
theorem pd_div {X : Cx} {T : Tab} {W : WX} {a b : Expr} {fa fb : FE} {pos : Pos} (D : Dvd X) (ha : PD X T W a fa) (hb : PD X T W b fb) : PD X T W (.BinOp a .FloorDiv b pos) (e2 gDiv fa fb) := pd_op (op_fdivN D) (o2_I fun _ _ h => h) ha hb
theorem dv_fn {P : Program} {w : World} {K : PySem.W.Frag} {mg : Str → Option Value} {base : Heap} {N ps : List Str} {qual : Str} {scope : Scope} {f : Addr} {cd : Value} {A : Around} {outer : List Env} {s : Shared} {H : Hp} {E : XK} {k : Nat}
    (ht : P.given.tree = none) (hs : seerB K = true) (S : FnScope N ps scope) (hr : Room k (A.deeper (envOfC qual scope s.heap.objs.size f cd))) (hk : 32 ≤ k) : Dvd (cxOf (L2.CX P w) P w K mg base N qual scope f cd A outer s H E) :=
  ⟨hs, ht, hr.mono hk, _, _, rfl, S.gen, S.co, rfl, rfl⟩
theorem Dvd.blk {X : Cx} (D : Dvd X) (s : Shared) (H : Hp) (scope : Scope) (env : Env) (fp : List Addr) : Dvd (X.blk s H scope env fp) := ⟨D.seer, D.tree, D.room, D.stk⟩
end Pd
set_option maxHeartbeats 2000000
namespace Pd
open PySem PySem.Spec PyProof.Rows L2 RT RZ
section
variable {K : PySem.W.Frag} {T : Tab} {Z1 H1 : Hp}
end
section
variable {K : PySem.W.Frag} {T : Tab} {Z1 H1 : Hp}
end
section
variable {X : Cx} {T : Tab} {W : WX} {e e2 : Expr} {f f2 : FE} {p pos tpos : Pos} {elts : List Expr} {kk : Nat}
end
mutual
def pyD : Dt → Option PyData
  | .non => some .none
  | .bl b => some (.bool b)
  | .int i => some (.int i)
  | .str s => some (.str s)
  | .ty _ => none
  | .tup ds => (pyDs ds).map .tuple
  | .lst ds => (pyDs ds).map .list
  | .ins _ _ => none
def pyDs : List Dt → Option (List PyData)
  | [] => some []
  | d :: ds => match pyD d, pyDs ds with
    | some x, some xs => some (x :: xs)
    | _, _ => none
end
section
variable {K : PySem.W.Frag} {T : Tab} {Z H : Hp}
mutual
theorem pyD_ok (zh : Le Z H) : ∀ {d : Dt} {v : V} {x : PyData}, Rep K T Z d v → pyD d = some x → Dp K H v x
  | .non, _, _, h, e => by simp only [Rep] at h; subst h; cases e; exact .non
  | .bl b, _, _, h, e => by simp only [Rep] at h; subst h; cases e; exact .bl b
  | .int i, _, _, h, e => by simp only [Rep] at h; subst h; cases e; exact .int i
  | .str i, _, _, h, e => by simp only [Rep] at h; subst h; cases e; exact .str i
  | .ty _, _, _, h, e => by cases e
  | .ins _ _, _, _, h, e => by cases e
  | .tup ds, _, _, h, e => by
    simp only [Rep] at h
    obtain ⟨p, vs, rfl, h1, h2⟩ := h
    unfold pyD at e
    obtain ⟨xs, e1, rfl⟩ := Option.map_eq_some_iff.mp e
    exact .tup (zh.seqT h1) (pyDs_ok zh h2 e1)
  | .lst ds, _, _, h, e => by
    simp only [Rep] at h
    obtain ⟨p, vs, rfl, h1, h2⟩ := h
    unfold pyD at e
    obtain ⟨xs, e1, rfl⟩ := Option.map_eq_some_iff.mp e
    exact .lst (zh.seqL h1) (pyDs_ok zh h2 e1)
theorem pyDs_ok (zh : Le Z H) : ∀ {ds : List Dt} {vs : List V} {xs : List PyData}, Reps K T Z ds vs → pyDs ds = some xs → DpAll K H vs xs
  | [], _, _, h, e => by rw [h.nil_inv]; cases e; exact .nil
  | d :: ds, _, _, h, e => by
    obtain ⟨v, r, rfl, h1, h2⟩ := h.cons_inv
    unfold pyDs at e
    split at e
    · rename_i x xs e1 e2
      cases e
      exact .cons (pyD_ok zh h1 e1) (pyDs_ok zh h2 e2)
    · cases e
end
def pyR : Rs → Option PyData
  | .fro d => pyD d
  | .own ds => (pyDs ds).map .list
  | .bor ds => (pyDs ds).map .list
theorem pyR_ok {B : Hp} (zh : Le Z H) {r : Rs} {v : V} {x : PyData} (h : RRep K T B Z H v r) (e : pyR r = some x) : Dp K H v x := by
  cases r with
  | fro d => exact pyD_ok zh h e
  | own ds =>
    obtain ⟨xs, e1, rfl⟩ := Option.map_eq_some_iff.mp e
    obtain ⟨p, vs, rfl, _, h1, _, h2⟩ := h
    exact .lst (.of h1) (pyDs_ok zh h2 e1)
  | bor ds =>
    obtain ⟨xs, e1, rfl⟩ := Option.map_eq_some_iff.mp e
    obtain ⟨p, vs, rfl, h1, h2⟩ := h
    exact .lst (.of h1) (pyDs_ok zh h2 e1)
def eqDt (x y : Rs) : Option Bool := match pyR x, pyR y with
  | some a, some b => if SeqAt.shaped a = true ∧ SeqAt.shaped b = true then some (PyData.eqv a b) else none
  | _, _ => none
def gEqD : G2 := fun x y => match eqDt x y with
  | some b => vB b
  | none => none
theorem eqDt_inv {x y : Rs} {b : Bool} (h : eqDt x y = some b) : ∃ a c, pyR x = some a ∧ pyR y = some c ∧ SeqAt.shaped a = true ∧ SeqAt.shaped c = true ∧ b = PyData.eqv a c := by
  unfold eqDt at h
  split at h
  · rename_i a c h1 h2
    split at h
    · rename_i hs
      cases h
      exact ⟨a, c, h1, h2, hs.1, hs.2, rfl⟩
    · cases h
  · cases h
end
section
variable {K : PySem.W.Frag} {T : Tab} {W : WX}
theorem o2_eqD : Op2 K T W (rEqD K) gEqD := fun σ B Z H x y v w out Q zh r1 r2 hg p => by
  unfold gEqD at hg
  split at hg
  · rename_i b hb
    cases hg
    obtain ⟨a, c, h1, h2, h3, h4, rfl⟩ := eqDt_inv hb
    exact ⟨a, c, pyR_ok zh r1 h1, pyR_ok zh r2 h2, h3, h4, p.fro zh (by simp only [Rep])⟩
  · cases hg
end
end Pd
set_option maxHeartbeats 2000000
namespace Pd
open PySem PySem.Spec L2
section
variable {X : Cx} {T : Tab} {W : WX} {k n : Nat} {fn : Fn} {x m : Str} {p xp apos pos : Pos} {e : Expr} {es : List Expr} {fa : FA}
end
theorem Vals.app : ∀ {vs : List V} {us : List Value} {zs : List V} {ws : List Value}, Vals vs us → Vals zs ws → Vals (vs ++ zs) (us ++ ws)
  | _, _, _, _, .nil, h => h
  | _, _, _, _, .cons r t, h => .cons r (Vals.app t h)
section
variable {K : PySem.W.Frag} {T : Tab} {x qual : Str} {params : Arguments} {body : List Stmt} {scope : Scope} {kws : List (Str × V)} {f : Addr} {fd : FuncData} {ps ks : List Str} {n : Nat}
end
section
variable {X : Cx} {T : Tab} {W : WX} {k n : Nat} {fn : Fn} {x : Str} {ks : List Str} {p pos : Pos} {e : Expr} {es : List Expr} {kws : List Keyword} {fa fk : FA}
end
section
variable {X : Cx} {T : Tab} {W : WX} {p pos : Pos} {a b : Expr} {fa fb : FE}
theorem units64 {k : Nat} {A : Around} (hr : Room k A) : A.units + 64 < cLine := by have := hr.un; omega
theorem pd_eqD {k : Nat} (hr : Room k X.A) (ha : PD X T W a fa) (hb : PD X T W b fb) : PD X T W (.Compare a [.Eq] [b] pos) (e2 gEqD fa fb) := pd_cmp (op_eqD (units64 hr)) o2_eqD ha hb (nomark _)
end
end Pd
set_option maxHeartbeats 2000000
namespace Pd
open PySem PySem.Spec L2
section
variable {X : Cx} {T : Tab} {W : WX} {x : Str} {np pos pos' : Pos} {body suite : List Stmt} {b₀ : Stmt} {F G : FS} {u : Addr}
end
end Pd
set_option maxHeartbeats 2000000
namespace Pd
open PySem PySem.Spec PyProof.Rows L2 PySem.W
section
variable {X : Cx} {k : Nat}
end
section
variable {X : Cx} {T : Tab} {W : WX} {p pos : Pos} {a b : Expr} {fa fb : FE} {k : Nat}
end
end Pd
set_option maxHeartbeats 2000000
namespace Pd
open PySem PySem.Spec L2
section
variable {X : Cx} {T : Tab} {W : WX} {i j k : Nat} {x y : Str} {xp yp apos cpos pos tpos : Pos} {es : List Expr}
end
end Pd
set_option maxHeartbeats 2000000
namespace Pd
open PySem PySem.Spec L2
mutual
def noL : Dt → Bool
  | .lst _ => false
  | .tup ds => noLs ds
  | .ins _ ds => noLs ds
  | _ => true
def noLs : List Dt → Bool
  | [] => true
  | d :: ds => noL d && noLs ds
end
def noR : Rs → Bool
  | .fro d => noL d
  | .own ds => noLs ds
  | .bor _ => false
def cutZ (Z : Hp) (q : Addr) : Hp := fun a => if a = q then none else Z a
theorem cutZ_ne {Z : Hp} {q a : Addr} (h : a ≠ q) : cutZ Z q a = Z a := if_neg h
theorem cutZ_same {Z : Hp} {q : Addr} : cutZ Z q q = none := if_pos rfl
section
variable {K : PySem.W.Frag} {T : Tab}
theorem cut_sqT {Z : Hp} {q p : Addr} {vs ws : List V} (hq : Z q = some (.lst vs)) (h : SqT K Z p ws) : SqT K (cutZ Z q) p ws := by
  rcases h with (h | ⟨o, h⟩) | h
  · have ne : p ≠ q := fun e => by rw [e, hq] at h; cases h
    exact .inl (.inl (by rw [cutZ_ne ne]; exact h))
  · have ne : p ≠ q := fun e => by rw [e, hq] at h; cases h
    exact .inl (.inr ⟨o, by rw [cutZ_ne ne]; exact h⟩)
  · exact .inr h
mutual
theorem cut_rep {Z : Hp} {q : Addr} {vs : List V} (hq : Z q = some (.lst vs)) : ∀ (d : Dt) (v : V), noL d = true → Rep K T Z d v → Rep K T (cutZ Z q) d v
  | .non, v, _, h => by simp only [Rep] at h ⊢; exact h
  | .bl _, v, _, h => by simp only [Rep] at h ⊢; exact h
  | .int _, v, _, h => by simp only [Rep] at h ⊢; exact h
  | .str _, v, _, h => by simp only [Rep] at h ⊢; exact h
  | .ty _, v, _, h => by simp only [Rep] at h ⊢; exact h
  | .lst _, v, n, _ => by simp [noL] at n
  | .tup ds, v, n, h => by
    simp only [Rep] at h ⊢
    obtain ⟨p, ws, rfl, h1, h2⟩ := h
    exact ⟨p, ws, rfl, cut_sqT hq h1, cut_reps hq ds ws (by simpa [noL] using n) h2⟩
  | .ins c ds, v, n, h => by
    simp only [Rep] at h ⊢
    obtain ⟨p, dx, ws, rfl, h1, h2, h3⟩ := h
    have ne : p ≠ q := fun e => by rw [e, hq] at h1; cases h1
    exact ⟨p, dx, ws, rfl, by rw [cutZ_ne ne]; exact h1, h2, cut_reps hq ds ws (by simpa [noL] using n) h3⟩
theorem cut_reps {Z : Hp} {q : Addr} {vs : List V} (hq : Z q = some (.lst vs)) : ∀ (ds : List Dt) (ws : List V), noLs ds = true → Reps K T Z ds ws → Reps K T (cutZ Z q) ds ws
  | [], ws, _, h => by simp only [Reps] at h ⊢; exact h
  | d :: ds, ws, n, h => by
    simp only [Reps] at h ⊢
    simp only [noLs, Bool.and_eq_true] at n
    obtain ⟨v, r, rfl, h1, h2⟩ := h
    exact ⟨v, r, rfl, cut_rep hq d v n.1 h1, cut_reps hq ds r n.2 h2⟩
end
theorem cut_ext {Z H Z' H' : Hp} {q : Addr} {vs : List V} (zq : Z q = none) (hq : H q = some (.lst vs)) (e : Ext4 (upd Z q (.lst vs)) H Z' H') : Ext4 Z H (cutZ Z' q) H' ∧ Z' q = some (.lst vs) := by
  have h1 : Z' q = some (.lst vs) := e.zz q _ upd_same
  refine ⟨⟨e.hh, fun a o h => ?_, fun a o h => ?_, fun a h => ?_⟩, h1⟩
  · have ne : a ≠ q := fun z => by rw [z, zq] at h; cases h
    rw [cutZ_ne ne]
    exact e.zz a o (by rw [upd_ne ne]; exact h)
  · by_cases z : a = q
    · rw [z, cutZ_same] at h; cases h
    · rw [cutZ_ne z] at h; exact e.zh a o h
  · by_cases z : a = q
    · rw [z, cutZ_same, zq]
    · rw [cutZ_ne z, e.st a h, upd_ne z]
theorem cut_rr {B Z H : Hp} {q : Addr} {vs : List V} {v : V} {r : Rs} (hq : Z q = some (.lst vs)) (n : noR r = true) (h : RRep K T B Z H v r) : RRep K T B (cutZ Z q) H v r := by
  cases r with
  | fro d => exact cut_rep hq d v n h
  | own ds =>
    obtain ⟨p, ws, rfl, b, hp, zp, rs⟩ := h
    refine ⟨p, ws, rfl, b, hp, ?_, cut_reps hq ds ws n rs⟩
    by_cases z : p = q
    · rw [z]; exact cutZ_same
    · rw [cutZ_ne z]; exact zp
  | bor ds => cases n
theorem cut_xr {Z H : Hp} {q : Addr} {vs : List V} {cls : Value} {d : Option Addr} {c : Nat} {ds : List Dt} (hq : Z q = some (.lst vs)) (n : noLs ds = true) (h : XRep K T Z H cls d c ds) : XRep K T (cutZ Z q) H cls d c ds := by
  obtain ⟨h1, h2 | ⟨x, dd, f, v, rfl, h3, h4, h5, h6⟩⟩ := h
  · exact ⟨h1, .inl h2⟩
  · simp only [noLs, Bool.and_eq_true] at n
    exact ⟨h1, .inr ⟨x, dd, f, v, rfl, h3, h4, h5, cut_rep hq x v n.1 h6⟩⟩
theorem si_frz {H0 Z H : Hp} {Z0 : Hx} {env : PEnv} {σ : St} {i : Nat} {ds : List Dt} (s : SI K T H0 Z0 env σ Z H) (he : env[i]? = some (some (.own ds))) : ∃ q vs, H q = some (.lst vs) ∧ Z q = none ∧ SI K T H0 Z0 (env.set i (some (.fro (.lst ds)))) σ (upd Z q (.lst vs)) H := by
  obtain ⟨v, e1, q, vs, rfl, b, hq, zq, rs⟩ := s.cell i _ he
  have lz : Le Z (upd Z q (.lst vs)) := Le.upd zq
  have hl : i < env.length := (List.getElem?_eq_some_iff.mp he).1
  have oi : isOwnC env[i]? := by rw [he]; exact True.intro
  refine ⟨q, vs, hq, zq, s.ext.freeze b zq hq, by simp [s.len], fun j c hj => ?_, fun j k u hjk h1 h2 h3 h4 => ?_, fun j c' ds' v' hj h' => ?_⟩
  · by_cases e : i = j
    · subst e
      rw [List.getElem?_set_self hl] at hj
      cases hj
      refine ⟨_, e1, ?_⟩
      show Rep K T _ (.lst ds) _
      simp only [Rep]
      exact ⟨q, vs, rfl, .of upd_same, rs.mono lz⟩
    · rw [List.getElem?_set_ne e] at hj
      obtain ⟨u, h1, h2⟩ := s.cell j c hj
      refine ⟨u, h1, ?_⟩
      cases c with
      | fro d => exact Rep.mono lz h2
      | own es =>
        obtain ⟨q2, ws, rfl, b2, hq2, zq2, rs2⟩ := h2
        have ne : q2 ≠ q := fun z => by
          subst z
          exact s.sep i j _ e oi (by rw [hj]; exact True.intro) e1 h1
        exact ⟨q2, ws, rfl, b2, hq2, by rw [upd_ne ne]; exact zq2, rs2.mono lz⟩
      | mk c es =>
        obtain ⟨q2, dx, ws, rfl, b2, hq2, zq2, rs2⟩ := h2
        have ne : q2 ≠ q := fun z => by
          subst z
          exact s.sep i j _ e oi (by rw [hj]; exact True.intro) e1 h1
        exact ⟨q2, dx, ws, rfl, b2, hq2, by rw [upd_ne ne]; exact zq2, rs2.mono lz⟩
  · have nf : ∀ m : Nat, isOwnC ((env.set i (some (.fro (.lst ds))))[m]?) → isOwnC env[m]? := fun m hm => by
      by_cases z : i = m
      · subst z; exact oi
      · rw [List.getElem?_set_ne z] at hm; exact hm
    exact s.sep j k u hjk (nf j h1) (nf k h2) h3 h4
  · by_cases e : i = j
    · subst e
      rw [List.getElem?_set_self hl] at hj; cases hj
    · rw [List.getElem?_set_ne e] at hj; exact s.me j _ _ _ hj h'
end
def eBor (n : Nat) (f : FE) : FE := fun ρ => match ρ[n]? with
  | some (some (.own ds)) => match f (ρ.set n (some (.fro (.lst ds)))) with
    | some (.ok r) => if noR r then some (.ok r) else none
    | some (.ex c es) => if noLs es then some (.ex c es) else none
    | none => none
  | _ => f ρ
def tBor (n : Nat) (f : FT) : FT := fun ρ => match ρ[n]? with
  | some (some (.own ds)) => match f (ρ.set n (some (.fro (.lst ds)))) with
    | some (.ok r) => some (.ok r)
    | some (.ex c es) => if noLs es then some (.ex c es) else none
    | none => none
  | _ => f ρ
section
variable {X : Cx} {T : Tab} {W : WX} {e : Expr} {f : FE} {t : FT} {n : Nat}
theorem pd_bor (n : Nat) (h : PD X T W e f) : PD X T W e (eBor n f) := PE.imp h fun σ H Q ⟨H0, Z0, env, Z, out, h, s, p⟩ => by
  unfold eBor at h
  split at h
  · rename_i ds he
    obtain ⟨q, vs, hq, zq, s1⟩ := si_frz s he
    split at h
    · rename_i r hf
      split at h
      · rename_i hn
        cases h
        refine ⟨H0, Z0, _, _, _, hf, s1, fun r' e' v Z' H' x rr => ?_, fun c ds' e' => nomatch e'⟩
        cases e'
        obtain ⟨x1, z1⟩ := cut_ext zq hq x
        exact p.ok _ rfl v _ H' x1 (cut_rr z1 hn rr)
      · cases h
    · rename_i c es hf
      split at h
      · rename_i hn
        cases h
        refine ⟨H0, Z0, _, _, _, hf, s1, (fun r' e' => nomatch e'), fun c' ds' e' cls d Z' H' x xr => ?_⟩
        cases e'
        obtain ⟨x1, z1⟩ := cut_ext zq hq x
        exact p.ex _ _ rfl cls d _ H' x1 (cut_xr z1 hn xr)
      · cases h
    · cases h
  · exact ⟨H0, Z0, env, Z, out, h, s, p⟩
theorem pdt_bor (n : Nat) (h : PDT X T W e t) : PDT X T W e (tBor n t) := PT.imp h fun σ H Q ⟨H0, Z0, env, Z, out, h, s, p⟩ => by
  unfold tBor at h
  split at h
  · rename_i ds he
    obtain ⟨q, vs, hq, zq, s1⟩ := si_frz s he
    split at h
    · rename_i r hf
      cases h
      refine ⟨H0, Z0, _, _, _, hf, s1, fun r' e' Z' H' x => ?_, fun c ds' e' => nomatch e'⟩
      cases e'
      obtain ⟨x1, z1⟩ := cut_ext zq hq x
      exact p.ok _ rfl _ H' x1
    · rename_i c es hf
      split at h
      · rename_i hn
        cases h
        refine ⟨H0, Z0, _, _, _, hf, s1, (fun r' e' => nomatch e'), fun c' ds' e' cls d Z' H' x xr => ?_⟩
        cases e'
        obtain ⟨x1, z1⟩ := cut_ext zq hq x
        exact p.ex _ _ rfl cls d _ H' x1 (cut_xr z1 hn xr)
      · cases h
    · cases h
  · exact ⟨H0, Z0, env, Z, out, h, s, p⟩
end
end Pd
set_option maxHeartbeats 2000000
namespace Pd
open PySem PySem.Spec L2
section
variable {X : Cx} {T : Tab} {W : WX} {p pos : Pos} {a b : Expr} {fa fb : FE}
end
end Pd
set_option maxHeartbeats 2000000
namespace Pd
open PySem PySem.Spec L2
section
variable {X : Cx} {T : Tab} {W : WX} {i : Nat} {x n : Str} {np rp pos pos' : Pos} {E : Expr} {body stmts : List Stmt} {F G : FS} {u : Addr}
end
end Pd
set_option maxHeartbeats 2000000
namespace Pd
open PySem PySem.Spec L2
section
variable {X : Cx} {T : Tab} {k : Nat} {m : Str} {ops : Nat → Option Fn}
end
end Pd
set_option maxHeartbeats 2000000
namespace Pd
open PySem PySem.Spec L2
section
variable {X : Cx} {T : Tab} {W : WX} {x sn n : Str} {k : Nat} {fI : Addr} {fd : FuncData} {p pos rpos : Pos} {e : Expr} {fe : FE}
end
section
variable {X : Cx} {T : Tab} {W : WX} {x : Str} {k : Nat} {p pos rpos : Pos} {e : Expr} {fe : FE}
end
end Pd
set_option maxHeartbeats 2000000
namespace Pd
open PySem PySem.Spec L2
structure XS (K : PySem.W.Frag) (T : Tab) (i : Nat) (a : Addr) (cls : Value) (d : Option Addr) (c : Nat) (σ : St) (Z H : Hp) (env : PEnv) (x : Dt) : Prop where
  si : ∃ H0 Z0, SI K T H0 Z0 env σ Z H
  at_ : σ[i]? = some (some (.ref a))
  cl : cls = .ref (T.ca c)
  xd : ∃ dd f v, d = some dd ∧ T.fl c = [f] ∧ H dd = some (.xd [(f, v)]) ∧ Rep K T Z x v
theorem XS.step {K : PySem.W.Frag} {T : Tab} {i : Nat} {a : Addr} {cls : Value} {d : Option Addr} {c : Nat} {σ : St} {Z H Z' H' : Hp} {env : PEnv} {x : Dt} (h : XS K T i a cls d c σ Z H env x) (e : Ext4 Z H Z' H') : XS K T i a cls d c σ Z' H' env x := by
  obtain ⟨⟨H0, Z0, s⟩, h2, h3, dd, f, v, h4, h5, h6, h7⟩ := h
  exact ⟨⟨H0, Z0, s.step e⟩, h2, h3, dd, f, v, h4, h5, e.hh _ _ h6, h7.mono e.zz⟩
abbrev GX := Dt → PEnv → M Bool
section
variable {X : Cx} {T : Tab} {i c : Nat} {a : Addr} {cls : Value} {d : Option Addr} {g h : GX} {p q1 q2 pos : Pos} {e e' : Expr} {rest : List Expr} {b : Bool}
theorem XS.zh {K : PySem.W.Frag} {σ : St} {Z H : Hp} {env : PEnv} {x : Dt} (h : XS K T i a cls d c σ Z H env x) : Le Z H := by
  obtain ⟨⟨H0, Z0, s⟩, _⟩ := h
  exact s.zh
end
section
variable {X : Cx} {T : Tab} {i j c : Nat} {a : Addr} {oe : Obj} {pn : List (Addr × Obj)} {cls : Value} {d : Option Addr} {p q1 q2 pos apos : Pos} {en y fl f : Str}
end
section
variable {X : Cx} {T : Tab} {i c : Nat} {a : Addr} {oe : Obj} {pn : List (Addr × Obj)} {d : Option Addr} {p q1 q2 pos : Pos} {x y : Str} {b : Bool}
end
section
variable {X : Cx} {T : Tab} {W : WX} {i : Nat} {x n : Str} {np rp pos pos' : Pos} {E : Expr} {body : List Stmt} {F : FS} {u : Addr}
end
end Pd
set_option maxHeartbeats 2000000
namespace Pd
open PySem PySem.Spec PyProof.Rows L2 L2H
section
variable {K : PySem.W.Frag} {T : Tab}
end
section
variable {X : Cx} {T : Tab} {W : WX} {k n : Nat} {f : Addr} {fd : FuncData} {ps ks : List Str} {fn : Fn} {gD : List Dt → List Dt → List Dt}
end
section
variable {X : Cx} {T : Tab} {i k c : Nat} {a : Addr} {oe : Obj} {pn : List (Addr × Obj)} {cls : Value} {d : Option Addr} {p q1 pos apos : Pos} {en fl fm : Str} {fn : Fn}
end
end Pd
set_option maxHeartbeats 2000000
namespace Pd
open PySem PySem.Spec PySem.W L2
end Pd
set_option maxHeartbeats 2000000
namespace Pd
open PySem PySem.Spec L2
def hasB (m a : Nat) : Bool := Nat.beq (Nat.land (Nat.shiftRight m a) 1) 1
def addL {β : Type} : List Addr → Nat → List Addr → (Nat → List Addr → β) → β
  | [], m, acc, k => k m acc
  | r :: rs, m, acc, k => match hasB m r with
    | true => addL rs m acc k
    | false => addL rs (Nat.lor m (Nat.shiftLeft 1 r)) (r :: acc) k
def growQ {β : Type} (g : Addr → Option Obj) : List Addr → Nat → List Addr → (Nat → List Addr → β) → β
  | [], m, acc, k => k m acc
  | a :: as, m, acc, k => match g a with
    | some o => addL (He.refsD o) m acc fun m acc => growQ g as m acc k
    | none => growQ g as m acc k
def levQ (g : Addr → Option Obj) : Nat → List Addr → Nat → List Addr → List Addr
  | 0, _, _, all => all
  | n + 1, fr, m, all => growQ g fr m [] fun m new => levQ g n new m (all ++ new)
def asQ (g : Addr → Option Obj) (n : Nat) : List Addr := levQ g n [mainGlobals] (Nat.shiftLeft 1 mainGlobals) [mainGlobals]
def seeQ (n : Nat) (fa : List He.Fa) (fn : List DefP) (ex : PySem.W.Frag → Bool) (g : Addr → Option Obj) : AlP := lookP fa fn ex (He.frG g (cStatics :: sysModules :: asQ g n))
def hookQ (n : Nat) (fa : List He.Fa) (fn : List DefP) (ex : PySem.W.Frag → Bool) : PySem.W.Hook where
  α := AlP
  obs s := seeQ n fa fn ex s.heap.get?
  val _ := askP fn
  says _ h := ∃ K : PySem.W.Frag, K.In h ∧ TellsP fa fn ex K
  of _ _ e := ⟨_, He.frG_in, e⟩
  keeps _ _ _ q k := let ⟨K, h1, h2⟩ := q; ⟨K, h1.keeps k, h2⟩
theorem seeQ_eq {n : Nat} {fa : List He.Fa} {fn : List DefP} {ex : PySem.W.Frag → Bool} {g : Addr → Option Obj} {s : Shared} (h : ∀ a, g a = s.heap.get? a) : seeQ n fa fn ex g = (hookQ n fa fn ex).obs s := by
  rw [funext h]
  rfl
end Pd
set_option maxHeartbeats 2000000
namespace Pd
open PySem PySem.Spec L2
section
open PySem.W PySem.Calls PyProof.Rows Builtin
variable {prog : Program} {w : World} {A : Around} {E : Value → Shared → Prop} {s : Shared} {K : Frag} {x C L f : Addr} {h₀ : Heap} {m : Str → Option Value} {ox : Obj} {od : Option Obj} {b : Value}
end
end Pd
set_option maxHeartbeats 2000000
namespace Pd
open PySem PySem.SeqAt
open AutoSeq1 (wpAny_loadPart')
open MeetsSeq MeetsSeq2 MeetsSeq3 SeqRoads2
def LstAt (s : Shared) (l b : Addr) (N : Nat) : Prop := ∃ (items items2 : Array Value) (n n2 : Nat) (dd dd2 : Option Addr) (sl sl2 : Array (Option Value)), s.heap.get? l = some { cls := .type "list", dict := dd, data := .seq items n, slots := sl } ∧ s.heap.get? b = some { cls := .type "list", dict := dd2, data := .seq items2 n2, slots := sl2 } ∧ items.size = N ∧ items2.size = N
section
variable {prog : Program} {w : World} {A : Around} {R : Result → Shared → Prop}
def ListB (prog : Program) (w : World) (A : Around) (E : Value → Shared → Prop) (l b : Addr) (N : Nat) (I : Nat → Shared → Prop) (Fa : Shared → Prop) : Prop :=
  (∀ i s, I i s → LstAt s l b N) ∧ ∀ i s, I i s → ∀ (items items2 : Array Value) (n n2 : Nat) (dd dd2 : Option Addr) (sl sl2 : Array (Option Value)), s.heap.get? l = some { cls := .type "list", dict := dd, data := .seq items n, slots := sl } → s.heap.get? b = some { cls := .type "list", dict := dd2, data := .seq items2 n2, slots := sl2 } →
    ∀ (h1 : i < items.size) (h2 : i < items2.size), wpAny (model prog w) A.in1 (eqBool items[i] items2[i]) (fun r s' => (r = true ∧ I (i + 1) s') ∨ (r = false ∧ LstAt s' l b N ∧ Fa s')) E s
theorem ne_loopB (l b : Addr) (N : Nat) (I : Nat → Shared → Prop) (Fa : Shared → Prop) (hl : ListB prog w A (fun e s' => R (.error e) s') l b N I Fa)
    (fin : ∀ s, I N s → R (.ok (.ret (.bool false))) s) (finF : ∀ s, Fa s → R (.ok (.ret (.bool true))) s) (k : Nat) :
    ∀ i : Nat, N - i = k → i ≤ N → ∀ s, I i s →
      wpAny (model prog w) A.in1 (Builtin.«list.__eq__.loop» ⟨[.ref l, .ref b, rawInt i, rawInt 3], []⟩) (GQ.FinOf prog w A R) (fun e s' => R (.error e) s') s := by
  induction k with
  | zero =>
    intro i hk hi s h
    obtain ⟨items, items2, n, n2, dd, dd2, sl, sl2, hl1, hb1, hs1, hs2⟩ := (hl.1 i s h)
    have hi' : i = N := by omega
    have hR : R (.ok (.ret (.bool false))) s := fin s (hi' ▸ h)
    obtain ⟨hp, g, d, tk, os⟩ := s
    wp_walk using wpAny_loadPart' hl1, wpAny_loadPart' hb1
    have hi1 : items[((i : Nat) : Int).toNat]? = none := by simp; omega
    have hi2 : items2[((i : Nat) : Int).toNat]? = none := by simp; omega
    rw [hi1, hi2]
    wp_walk using wpAny_loadPart' hl1, wpAny_loadPart' hb1
    show R (.ok (.ret (.bool (items.size != items2.size)))) _
    rw [hs1, hs2]
    simpa using hR
  | succ k ih =>
    intro i hk hi s h
    obtain ⟨items, items2, n, n2, dd, dd2, sl, sl2, hl1, hb1, hs1, hs2⟩ := (hl.1 i s h)
    have hlt : i < items.size := by omega
    have hlt2 : i < items2.size := by omega
    have ht := hl.2 i s h items items2 n n2 dd dd2 sl sl2 hl1 hb1 hlt hlt2
    obtain ⟨hp, g, d, tk, os⟩ := s
    wp_walk using wpAny_loadPart' hl1, wpAny_loadPart' hb1
    have hi1 : items[((i : Nat) : Int).toNat]? = some items[i] := by simp [hlt]
    have hi2 : items2[((i : Nat) : Int).toNat]? = some items2[i] := by simp [hlt2]
    have hc : ((i : Int) + 1) = ((i + 1 : Nat) : Int) := by omega
    rw [hi1, hi2]
    refine wpAny_bind (wpAny_mono ht (fun r s2 h2 => ?_) fun _ _ x => x)
    rcases h2 with ⟨hr, h2⟩ | ⟨hr, h2⟩
    · subst hr
      have hrec := ih (i + 1) (by omega) (by omega) s2 h2
      obtain ⟨hp2, g2, d2, tk2, os2⟩ := s2
      wp_walk
      rw [hc]
      exact ⟨plainId_quiet plain_eq_loop _, codeAny_builtin entry_eq_loop (by
        rw [Around.under_plainId plain_eq_loop _]
        exact hrec)⟩
    · subst hr
      obtain ⟨⟨x, y, m, m2, e, e2, r, r2, k1, k2, z1, z2⟩, hF⟩ := h2
      have hR := finF s2 hF
      obtain ⟨hp2, g2, d2, tk2, os2⟩ := s2
      wp_walk using wpAny_loadPart' k1, wpAny_loadPart' k2
      have hj1 : x[((i : Nat) : Int).toNat]? = some (x[i]'(by omega)) := by simp
      have hj2 : y[((i : Nat) : Int).toNat]? = some (y[i]'(by omega)) := by simp
      rw [hj1, hj2]
      wp_walk
      exact hR
theorem ne_listB (l b : Addr) (N : Nat) (I : Nat → Shared → Prop) (Fa : Shared → Prop) (hl : ListB prog w A (fun e s' => R (.error e) s') l b N I Fa)
    (fin : ∀ s, I N s → R (.ok (.ret (.bool false))) s) (finF : ∀ s, Fa s → R (.ok (.ret (.bool true))) s) {s : Shared} (h : I 0 s) :
    wpAny (model prog w) A.in1 (Builtin.«list.__ne__» ⟨[.ref l, .ref b], []⟩) (GQ.FinOf prog w A R) (fun e s' => R (.error e) s') s := by
  have hrec := ne_loopB (A := A) (R := R) l b N I Fa hl fin finF _ 0 rfl (Nat.zero_le _) s h
  obtain ⟨items, items2, n, n2, dd, dd2, sl, sl2, hl1, hb1, hs1, hs2⟩ := (hl.1 0 s h)
  obtain ⟨hp, g, d, tk, os⟩ := s
  have f3 := AutoSeq1.sub_list_list
  have hne : ¬ (items.size != items2.size) = true := by simp [hs1, hs2]
  wp_walk using wpAny_loadPart' hl1, wpAny_loadPart' hb1
  exact ⟨plainId_quiet plain_eq_loop _, codeAny_builtin entry_eq_loop (by
    rw [Around.under_plainId plain_eq_loop _]
    exact hrec)⟩
theorem ne_listS (l b : Addr) (items items2 : Array Value) (n n2 : Nat) (dd dd2 : Option Addr) (sl sl2 : Array (Option Value)) (hc0 : (items.size != items2.size) = true) {s : Shared}
    (hl : s.heap.get? l = some { cls := .type "list", dict := dd, data := .seq items n, slots := sl }) (hb : s.heap.get? b = some { cls := .type "list", dict := dd2, data := .seq items2 n2, slots := sl2 })
    (h : R (.ok (.ret (.bool true))) s) : wpAny (model prog w) A.in1 (Builtin.«list.__ne__» ⟨[.ref l, .ref b], []⟩) (GQ.FinOf prog w A R) (fun e s' => R (.error e) s') s := by
  obtain ⟨hp, g, d, tk, os⟩ := s
  have f3 := AutoSeq1.sub_list_list
  wp_walk using wpAny_loadPart' hl, wpAny_loadPart' hb
  first | exact h | exact ⟨_, rfl, h⟩
theorem ne_tupB (l b : Addr) (items items2 : Array Value) (n n2 : Nat) (dd dd2 : Option Addr) (sl sl2 : Array (Option Value)) (I : Nat → Shared → Prop) (Fa : Shared → Prop)
    (turn : ∀ i (h1 : i < items.size) (h2 : i < items2.size) s, I i s → wpAny (model prog w) A.in1 (eqBool items[i] items2[i]) (fun r s' => (r = true ∧ I (i + 1) s') ∨ (r = false ∧ Fa s')) (fun e s' => R (.error e) s') s)
    (fin : ∀ s, I (min items.size items2.size) s → R (.ok (.ret (.bool (items.size != items2.size)))) s) (finF : ∀ s, Fa s → R (.ok (.ret (.bool true))) s) {s : Shared} (hl1 : s.heap.get? l = some { cls := .type "tuple", dict := dd, data := .seq items n, slots := sl }) (hb1 : s.heap.get? b = some { cls := .type "tuple", dict := dd2, data := .seq items2 n2, slots := sl2 }) (h : I 0 s) :
    wpAny (model prog w) A.in1 (Builtin.«tuple.__ne__» ⟨[.ref l, .ref b], []⟩) (GQ.FinOf prog w A R) (fun e s' => R (.error e) s') s := by
  have f2 := AutoSeq1.sub_tuple_tuple
  have hZ : (items.toList.zip items2.toList).length = min items.size items2.size := by simp
  have h0 := h
  obtain ⟨hp, g, d, tk, os⟩ := s
  wp_walk using wpAny_loadPart' hl1, wpAny_loadPart' hb1, wpAny_forIn_list _ (fun rest b s' => b.1 = none ∧ ∃ i, rest = (items.toList.zip items2.toList).drop i ∧ i ≤ min items.size items2.size ∧ I i s') _
  case turn =>
    rintro ⟨y, x⟩ rest b s' ⟨hb', i, hz, hi, hI⟩
    have hlt : i < (items.toList.zip items2.toList).length := by
      rcases Nat.lt_or_ge i (items.toList.zip items2.toList).length with h' | h'
      · exact h'
      · rw [List.drop_of_length_le h'] at hz; cases hz
    have hm : i < min items.size items2.size := hZ ▸ hlt
    have h1 : i < items.size := Nat.lt_of_lt_of_le hm (Nat.min_le_left _ _)
    have h2 : i < items2.size := Nat.lt_of_lt_of_le hm (Nat.min_le_right _ _)
    rw [List.drop_eq_getElem_cons hlt] at hz
    injection hz with hyx hrest
    have hy : y = items[i] := by have := congrArg Prod.fst hyx; simpa using this
    have hx : x = items2[i] := by have := congrArg Prod.snd hyx; simpa using this
    subst hy hx
    refine wpAny_bind (wpAny_mono (turn i h1 h2 s' hI) (fun r s2 q2 => ?_) fun _ _ x => x)
    rcases q2 with ⟨hr, q2⟩ | ⟨hr, q2⟩
    · subst hr
      wp_walk
      exact ⟨rfl, i + 1, hrest, hm, q2⟩
    · subst hr
      have hR := finF _ q2
      wp_walk
      exact hR
  case fin =>
    rintro ⟨b1, b2⟩ s' ⟨hb', i, hz, hi, hI⟩
    simp only at hb'
    subst hb'
    have hge : min items.size items2.size ≤ i := by
      rcases Nat.lt_or_ge i (items.toList.zip items2.toList).length with h' | h'
      · rw [List.drop_eq_getElem_cons h'] at hz; cases hz
      · exact hZ ▸ h'
    have hi' : i = min items.size items2.size := by omega
    have hR := fin s' (hi' ▸ hI)
    wp_walk
    simpa [Builtin.Tuple.tupleCompareSizes] using hR
  case h =>
    exact ⟨rfl, 0, rfl, Nat.zero_le _, h0⟩
end
end Pd
set_option maxHeartbeats 2000000
namespace Pd
open PySem PySem.Spec L2
abbrev inA (X : Cx) (A : Around) : Cx := { X with A := A }
section
variable {X : Cx} {A : Around} {pins : List (Addr × Obj)} {σ : St} {H : Hp} {s : Shared}
theorem inA_ok (ok : X.Ok) (hf : A.frames = X.A.frames) (hh : A.handled = X.A.handled) : (inA X A).Ok :=
  ⟨ok.mod, ok.kind, ok.glob, ok.blt, ok.above, ok.inj, ok.has, ok.cab, fun c => hh.trans (ok.hd c), hf.trans ok.frames, ok.stk, ok.exf, ok.bs, ok.bsz, ok.noex, ok.exfs, ok.funs, ok.frf⟩
theorem inA_inv (I : Inv X pins σ H s) (hf : A.frames = X.A.frames) (hh : A.handled = X.A.handled) : Inv (inA X A) pins σ H s := ⟨inA_ok I.ok hf hh, I.os, I.bare, I.base, I.loc, I.cell, I.free, I.freeC, I.pin, I.hok, I.len⟩
theorem inA_back (ok : X.Ok) (I : Inv (inA X A) pins σ H s) : Inv X pins σ H s := ⟨ok, I.os, I.bare, I.base, I.loc, I.cell, I.free, I.freeC, I.pin, I.hok, I.len⟩
end
mutual
def same : Dt → Dt → Bool
  | .non, .non => true
  | .bl _, .bl _ => true
  | .int _, .int _ => true
  | .str _, .str _ => true
  | .tup xs, .tup ys => sames xs ys
  | .lst xs, .lst ys => sames xs ys
  | .ins c xs, .ins c' ys => decide (c = c') && sames xs ys
  | _, _ => false
def sames : List Dt → List Dt → Bool
  | x :: xs, y :: ys => same x y && sames xs ys
  | _, _ => true
end
section
variable {X : Cx} {T : Tab} {pins : List (Addr × Obj)} {σ : St} {H Z : Hp} {s : Shared}
theorem zip_inj {α β : Type} : ∀ {fs : List α} {vs ws : List β}, vs.length = fs.length → ws.length = fs.length → fs.zip vs = fs.zip ws → vs = ws
  | [], [], [], _, _, _ => rfl
  | f :: fs, v :: vs, w :: ws, h1, h2, e => by
    simp only [List.zip_cons_cons, List.cons.injEq, Prod.mk.injEq, true_and] at e
    rw [e.1, zip_inj (by simpa using h1) (by simpa using h2) e.2]
  | [], v :: vs, _, h1, _, _ => by simp at h1
  | [], [], w :: ws, _, h2, _ => by simp at h2
  | f :: fs, [], _, h1, _, _ => by simp at h1
  | f :: fs, v :: vs, [], _, h2, _ => by simp at h2
mutual
theorem rep_fun (I : Inv X pins σ H s) (zh : Le Z H) : ∀ {d d' : Dt} {v : V}, Rep X.K T Z d v → Rep X.K T Z d' v → same d d' = true → d = d'
  | .non, d', v, h, h', e => by
    cases d' <;> first | rfl | (simp [same] at e)
  | .bl b, d', v, h, h', e => by
    cases d' <;> first | (simp [same] at e; done) | (simp only [Rep] at h h'; rw [h] at h'; cases h'; rfl)
  | .int b, d', v, h, h', e => by
    cases d' <;> first | (simp [same] at e; done) | (simp only [Rep] at h h'; rw [h] at h'; cases h'; rfl)
  | .str b, d', v, h, h', e => by
    cases d' <;> first | (simp [same] at e; done) | (simp only [Rep] at h h'; rw [h] at h'; cases h'; rfl)
  | .ty b, d', v, h, h', e => by
    cases d' <;> simp [same] at e
  | .tup ds, .tup es, v, h, h', e => by
    simp only [Rep] at h h'
    obtain ⟨p, vs, rfl, h1, h2⟩ := h
    obtain ⟨p', ws, e1, h3, h4⟩ := h'
    cases e1
    have := I.tuple_inj (zh.seqT h1) (zh.seqT h3)
    subst this
    rw [reps_fun I zh h2 h4 e]
  | .lst ds, .lst es, v, h, h', e => by
    simp only [Rep] at h h'
    obtain ⟨p, vs, rfl, h1, h2⟩ := h
    obtain ⟨p', ws, e1, h3, h4⟩ := h'
    cases e1
    have := I.list_inj (zh.seqL h1) (zh.seqL h3)
    subst this
    rw [reps_fun I zh h2 h4 e]
  | .ins c ds, .ins c' es, v, h, h', e => by
    simp only [same, Bool.and_eq_true, decide_eq_true_iff] at e
    obtain ⟨rfl, e⟩ := e
    simp only [Rep] at h h'
    obtain ⟨p, dx, vs, rfl, h1, l1, h2⟩ := h
    obtain ⟨p', dx', ws, e1, h3, l2, h4⟩ := h'
    cases e1
    rw [h1] at h3
    have e5 : (T.fl c).zip vs = (T.fl c).zip ws := by
      injection h3 with h3
      injection h3
    have := zip_inj l1 l2 e5
    subst this
    rw [reps_fun I zh h2 h4 e]
  | .tup _, .non, _, _, _, e => by simp [same] at e
  | .tup _, .bl _, _, _, _, e => by simp [same] at e
  | .tup _, .int _, _, _, _, e => by simp [same] at e
  | .tup _, .str _, _, _, _, e => by simp [same] at e
  | .tup _, .ty _, _, _, _, e => by simp [same] at e
  | .tup _, .lst _, _, _, _, e => by simp [same] at e
  | .tup _, .ins _ _, _, _, _, e => by simp [same] at e
  | .lst _, .non, _, _, _, e => by simp [same] at e
  | .lst _, .bl _, _, _, _, e => by simp [same] at e
  | .lst _, .int _, _, _, _, e => by simp [same] at e
  | .lst _, .str _, _, _, _, e => by simp [same] at e
  | .lst _, .ty _, _, _, _, e => by simp [same] at e
  | .lst _, .tup _, _, _, _, e => by simp [same] at e
  | .lst _, .ins _ _, _, _, _, e => by simp [same] at e
  | .ins _ _, .non, _, _, _, e => by simp [same] at e
  | .ins _ _, .bl _, _, _, _, e => by simp [same] at e
  | .ins _ _, .int _, _, _, _, e => by simp [same] at e
  | .ins _ _, .str _, _, _, _, e => by simp [same] at e
  | .ins _ _, .ty _, _, _, _, e => by simp [same] at e
  | .ins _ _, .tup _, _, _, _, e => by simp [same] at e
  | .ins _ _, .lst _, _, _, _, e => by simp [same] at e
theorem reps_fun (I : Inv X pins σ H s) (zh : Le Z H) : ∀ {ds es : List Dt} {vs : List V}, Reps X.K T Z ds vs → Reps X.K T Z es vs → sames ds es = true → ds = es
  | [], [], _, _, _, _ => rfl
  | [], e :: es, vs, h, h', _ => by
    simp only [Reps] at h h'
    obtain ⟨v, r, e1, _⟩ := h'
    rw [h] at e1; cases e1
  | d :: ds, [], vs, h, h', _ => by
    simp only [Reps] at h h'
    obtain ⟨v, r, e1, _⟩ := h
    rw [h'] at e1; cases e1
  | d :: ds, e :: es, vs, h, h', q => by
    simp only [Reps] at h h'
    obtain ⟨v, r, rfl, h1, h2⟩ := h
    obtain ⟨v', r', e1, h3, h4⟩ := h'
    cases e1
    simp only [sames, Bool.and_eq_true] at q
    rw [rep_fun I zh h1 h3 q.1, reps_fun I zh h2 h4 q.2]
end
end
open Classical in
noncomputable def seqI (ops : Nat → Option Fn) : List Dt → List Dt → Option Bool
  | [], [] => some true
  | [], _ :: _ => some false
  | _ :: _, [] => some false
  | .ins c ds :: xs, .ins c' es :: ys => if c' = c then match ops c with
      | some fn => match fn [.ins c ds, .ins c es] with
        | some (.ok (.fro (.bl true))) => seqI ops xs ys
        | some (.ok (.fro (.bl false))) => if same (.ins c ds) (.ins c es) = true ∧ (Dt.ins c ds) ≠ .ins c es then some false else none
        | _ => none
      | none => none
    else none
  | _ :: _, _ :: _ => none
section
variable {X : Cx} {T : Tab} {k : Nat} {ops : Nat → Option Fn} {pins : List (Addr × Obj)} {σ : St} {H Z : Hp} {s : Shared}
def EqC (X : Cx) (T : Tab) (ops : Nat → Option Fn) : Prop := ∀ c fn, ops c = some fn → IsiC X.K T c
theorem eqI_rc {A : Around} (D : MethsOk X T k "__eq__" 2 ops) (hr : Room k A) (hf : A.frames = X.A.frames) (hh : A.handled = X.A.handled) (hc : EqC X T ops) (I : Inv X pins σ H s) (zh : Le Z H) {c : Nat} {ds es : List Dt} {a a2 : Addr} {fn : Fn} {b : Bool}
    (dx : Rep X.K T Z (.ins c ds) (.ref a)) (dy : Rep X.K T Z (.ins c es) (.ref a2)) (hfn : ops c = some fn) (hb : fn [.ins c ds, .ins c es] = some (.ok (.fro (.bl b)))) :
    wpAny (model X.prog X.w) A (richCompare .Eq (.ref a) (.ref a2)) (fun r s' => r = .bool b ∧ ∃ Z' H', Inv X pins σ H' s' ∧ Ext4 Z H Z' H') X.xe s := by
  have I' := inA_inv I hf hh
  have op : OpR (inA X A) (compareOp .Eq) (rOwnD X.K T (eqKind []) ops) := op_ownEq (X := inA X A) (T := T) (k := k) (ns := []) (fun _ _ => rfl) rfl D hr (fun c' fn' h => ⟨fun n hn => absurd hn (by simp), hc c' fn' h⟩)
  have go := op pins s σ H (.ref a) (.ref a2) (.ref a) (.ref a2) (fun v H' => v = .bl b ∧ ∃ Z', Ext4 Z H Z' H') I' rfl rfl ⟨Z, c, ds, .ins c es, fn, .fro (.bl b), zh, dx, dy, by simp [eqKind, typD], hfn, hb, fun v Z' H' e r => ⟨by simpa only [RRep, Rep] using r, Z', e⟩⟩
  refine wpAny_mono go (fun r s' q => ?_) fun _ _ x => x
  obtain ⟨v, H', I2, rv, hv, Z', e⟩ := q
  subst hv
  exact ⟨rv, Z', H', inA_back I.ok I2, e⟩
theorem eqI_step {A : Around} (D : MethsOk X T k "__eq__" 2 ops) (hr : Room k A) (hf : A.frames = X.A.frames) (hh : A.handled = X.A.handled) (hc : EqC X T ops) (I : Inv X pins σ H s) (zh : Le Z H) {c : Nat} {ds es : List Dt} {x y : V} {u v : Value} {fn : Fn} {b : Bool}
    (dx : Rep X.K T Z (.ins c ds) x) (dy : Rep X.K T Z (.ins c es) y) (rx : RelV x u) (ry : RelV y v) (hfn : ops c = some fn) (hb : fn [.ins c ds, .ins c es] = some (.ok (.fro (.bl b)))) (hd : b = false → x ≠ y) :
    wpAny (model X.prog X.w) A (eqBool u v) (fun r s' => r = b ∧ ∃ Z' H', Inv X pins σ H' s' ∧ Ext4 Z H Z' H') X.xe s := by
  obtain ⟨a, dx', vs, rfl, hz⟩ := ins_of (T := T) dx
  obtain ⟨a2, dy', ws, rfl, hz2⟩ := ins_of (T := T) dy
  obtain rfl : u = Value.ref a := rx
  obtain rfl : v = Value.ref a2 := ry
  by_cases hab : a = a2
  · subst hab
    have : b = true := by
      cases b with
      | true => rfl
      | false => exact absurd rfl (hd rfl)
    subst this
    exact SeqAt.EqAt.same (A := A) (s := s) (.ref a) X.prog X.w X.xe _ ⟨rfl, Z, H, I, Ext4.refl zh⟩
  · refine GQ.eqBool_refG hab (wpAny_mono (eqI_rc D hr hf hh hc I zh dx dy hfn hb) (fun r s' q => ⟨b, q.1, rfl, q.2⟩) fun _ _ x => x)
theorem seqI_cons {d e : Dt} {xs ys : List Dt} {b : Bool} (h : seqI ops (d :: xs) (e :: ys) = some b) : ∃ c ds es fn, d = .ins c ds ∧ e = .ins c es ∧ ops c = some fn ∧
    ((fn [.ins c ds, .ins c es] = some (.ok (.fro (.bl true))) ∧ seqI ops xs ys = some b) ∨ (fn [.ins c ds, .ins c es] = some (.ok (.fro (.bl false))) ∧ same (.ins c ds) (.ins c es) = true ∧ (Dt.ins c ds) ≠ .ins c es ∧ b = false)) := by
  cases d with
  | ins c ds =>
    cases e with
    | ins c' es =>
      unfold seqI at h
      split at h
      · rename_i hc
        subst hc
        split at h
        · rename_i fn hfn
          split at h
          · rename_i hb
            exact ⟨_, ds, es, fn, rfl, rfl, hfn, .inl ⟨hb, h⟩⟩
          · rename_i hb
            split at h
            · rename_i hs
              cases h
              exact ⟨_, ds, es, fn, rfl, rfl, hfn, .inr ⟨hb, hs.1, hs.2, rfl⟩⟩
            · cases h
          · cases h
        · cases h
      · cases h
    | _ => simp [seqI] at h
  | _ => simp [seqI] at h
def SqI (X : Cx) (T : Tab) (ops : Nat → Option Fn) (pins : List (Addr × Obj)) (σ : St) (Z H : Hp) (ds es : List Dt) (b : Bool) (i : Nat) (s' : Shared) : Prop := ∃ Z' H', Inv X pins σ H' s' ∧ Ext4 Z H Z' H' ∧ seqI ops (ds.drop i) (es.drop i) = some b
def SqF (X : Cx) (pins : List (Addr × Obj)) (σ : St) (Z H : Hp) (b : Bool) (s' : Shared) : Prop := b = false ∧ ∃ Z' H', Inv X pins σ H' s' ∧ Ext4 Z H Z' H'
theorem turnI {A : Around} (D : MethsOk X T k "__eq__" 2 ops) (hr : Room (k + 1) A) (hf : A.frames = X.A.frames) (hh : A.handled = X.A.handled) (hc : EqC X T ops) {ds es : List Dt} {vs ws : List V} {its its2 : List Value} {b : Bool} (rd : Reps X.K T Z ds vs) (re : Reps X.K T Z es ws) (r : Vals vs its) (r2 : Vals ws its2)
    (i : Nat) (h1 : i < its.toArray.size) (h2 : i < its2.toArray.size) (s' : Shared) (l : SqI X T ops pins σ Z H ds es b i s') :
    wpAny (model X.prog X.w) A.in1 (eqBool its.toArray[i] its2.toArray[i]) (fun r s2 => (r = true ∧ SqI X T ops pins σ Z H ds es b (i + 1) s2) ∨ (r = false ∧ SqF X pins σ Z H b s2)) X.xe s' := by
  obtain ⟨Z1, H1, I1, e1, q⟩ := l
  have h1' : i < its.length := by simpa using h1
  have h2' : i < its2.length := by simpa using h2
  have g1 : its[i]? = some its.toArray[i] := by
    rw [List.getElem?_eq_getElem h1'] <;> simp
  have g2 : its2[i]? = some its2.toArray[i] := by
    rw [List.getElem?_eq_getElem h2'] <;> simp
  have k1 : i < vs.length := by rw [r.length]; exact h1'
  have k2 : i < ws.length := by rw [r2.length]; exact h2'
  obtain ⟨u, hu, ru⟩ := r.get (List.getElem?_eq_getElem k1)
  obtain ⟨v, hv, rv⟩ := r2.get (List.getElem?_eq_getElem k2)
  rw [g1] at hu
  rw [g2] at hv
  rw [Option.some.inj hu, Option.some.inj hv]
  have j1 : i < ds.length := by rw [← rd.length]; exact k1
  have j2 : i < es.length := by rw [← re.length]; exact k2
  rw [List.drop_eq_getElem_cons j1, List.drop_eq_getElem_cons j2] at q
  obtain ⟨c, xs, ys, fn, ed, ee, hfn, hq⟩ := seqI_cons q
  obtain ⟨v1, hv1, p1⟩ := (rd.mono e1.zz).get (List.getElem?_eq_getElem j1)
  obtain ⟨v2, hv2, p2⟩ := (re.mono e1.zz).get (List.getElem?_eq_getElem j2)
  rw [List.getElem?_eq_getElem k1] at hv1
  rw [List.getElem?_eq_getElem k2] at hv2
  cases Option.some.inj hv1
  cases Option.some.inj hv2
  rw [ed] at p1
  rw [ee] at p2
  rcases hq with ⟨hb, hq⟩ | ⟨hb, hs, hne, rfl⟩
  · refine wpAny_mono (eqI_step D hr.in1 hf hh hc I1 e1.zh p1 p2 ru rv hfn hb (fun z => nomatch z)) (fun r s2 z => ?_) fun _ _ x => x
    obtain ⟨z1, Z2, H2, I2, e2⟩ := z
    exact .inl ⟨z1, Z2, H2, I2, e1.trans e2, hq⟩
  · refine wpAny_mono (eqI_step D hr.in1 hf hh hc I1 e1.zh p1 p2 ru rv hfn hb (fun _ ev => hne ?_)) (fun r s2 z => ?_) fun _ _ x => x
    · rw [← ev] at p2
      exact rep_fun I1 e1.zh p1 p2 hs
    · obtain ⟨z1, Z2, H2, I2, e2⟩ := z
      exact .inr ⟨z1, rfl, Z2, H2, I2, e1.trans e2⟩
def TupI (K : PySem.W.Frag) (T : Tab) (ops : Nat → Option Fn) (Z H : Hp) (x y : V) (b : Bool) : Prop := ∃ p q vs ws ds es, x = .ref p ∧ y = .ref q ∧ SqT K H p vs ∧ SqT K H q ws ∧ Reps K T Z ds vs ∧ Reps K T Z es ws ∧ seqI ops ds es = some b
def LstI (K : PySem.W.Frag) (T : Tab) (ops : Nat → Option Fn) (Z H : Hp) (x y : V) (b : Bool) : Prop := ∃ p q vs ws ds es, x = .ref p ∧ y = .ref q ∧ SqL K H p vs ∧ SqL K H q ws ∧ Reps K T Z ds vs ∧ Reps K T Z es ws ∧ (ds.length = es.length → seqI ops ds es = some b) ∧ (ds.length ≠ es.length → b = false)
theorem lstAt_of {p q : Addr} {vs ws : List V} {H1 : Hp} {s' : Shared} (I : Inv X pins σ H1 s') (h1 : SqL X.K H1 p vs) (h2 : SqL X.K H1 q ws) {N : Nat} (n1 : vs.length = N) (n2 : ws.length = N) : LstAt s' p q N := by
  obtain ⟨its, r, ⟨⟨cls, dd, data, sl⟩, n, e, c1, c2, c3⟩, _⟩ := I.list h1
  obtain ⟨its2, r2, ⟨⟨cls2, dd2, data2, sl2⟩, m, e2, c4, c5, c6⟩, _⟩ := I.list h2
  simp only at c1 c2 c3 c4 c5 c6
  subst c1 c2 c3 c4 c5 c6
  exact ⟨_, _, _, _, _, _, _, _, e, e2, by rw [List.size_toArray, ← r.length, n1], by rw [List.size_toArray, ← r2.length, n2]⟩
theorem rc_tup_ne (D : MethsOk X T k "__eq__" 2 ops) (hr : Room (k + 1) X.A) (hc : EqC X T ops) (I : Inv X pins σ H s) (zh : Le Z H) {x y : V} {u v : Value} {b : Bool} (rx : RelV x u) (ry : RelV y v) (h : TupI X.K T ops Z H x y b) :
    wpAny (model X.prog X.w) X.A (richCompare .NotEq u v) (fun r s' => r = .bool (!b) ∧ ∃ Z' H', Inv X pins σ H' s' ∧ Ext4 Z H Z' H') X.xe s := by
  obtain ⟨p, q, vs, ws, ds, es, rfl, rfl, h1, h2, rd, re, hb⟩ := h
  obtain rfl : u = Value.ref p := rx
  obtain rfl : v = Value.ref q := ry
  obtain ⟨its, r, ⟨⟨cls, dd, data, sl⟩, ho, c1, n, c2⟩, _⟩ := I.tuple h1
  obtain ⟨its2, r2, ⟨⟨cls2, dd2, data2, sl2⟩, ho2, c3, n2, c4⟩, _⟩ := I.tuple h2
  simp only at c1 c2 c3 c4
  subst c1 c2 c3 c4
  have l1 : its.toArray.size = ds.length := by rw [List.size_toArray, ← r.length, rd.length]
  have l2 : its2.toArray.size = es.length := by rw [List.size_toArray, ← r2.length, re.length]
  refine wpAny_richCompare_same_room (op := .NotEq) ⟨_, ho, rfl⟩ ⟨_, ho2, rfl⟩ F.slot_tuple_ne (GQ.call_here F.slot_tuple_ne ⟨_, ho, rfl⟩ F.entry_tuple_ne (F.args_tuple_ne_2 _ _) ?_) hr.units0
  refine ne_tupB (R := wants (fun v s' => v ≠ .notImplemented ∧ _) X.xe) p q its.toArray its2.toArray n n2 dd dd2 sl sl2 (SqI X T ops pins σ Z H ds es b) (SqF X pins σ Z H b) (fun i k1 k2 s' l => turnI D hr rfl rfl hc rd re r r2 i k1 k2 s' l) (fun s' l => ?_) (fun s' l => ?_) ho ho2 ⟨Z, H, I, Ext4.refl zh, hb⟩
  · obtain ⟨Z1, H1, I1, e1, hq⟩ := l
    refine ⟨(fun x => nomatch x), ?_, Z1, H1, I1, e1⟩
    rw [l1, l2] at hq
    have : (ds.length == es.length) = b := by
      rcases Nat.lt_trichotomy ds.length es.length with q | q | q
      · rw [Nat.min_eq_left (Nat.le_of_lt q), List.drop_length, List.drop_eq_getElem_cons q] at hq
        cases hq
        simp; omega
      · rw [q, Nat.min_self, ← q, List.drop_length, q, List.drop_length] at hq
        cases hq
        simp [q]
      · rw [Nat.min_eq_right (Nat.le_of_lt q), List.drop_length, List.drop_eq_getElem_cons q] at hq
        cases hq
        simp; omega
    rw [l1, l2, ← this]
    all_goals rfl
  · obtain ⟨rfl, Z1, H1, I1, e1⟩ := l
    exact ⟨(fun x => nomatch x), rfl, Z1, H1, I1, e1⟩
theorem rc_lst_ne (D : MethsOk X T k "__eq__" 2 ops) (hr : Room (k + 1) X.A) (hc : EqC X T ops) (I : Inv X pins σ H s) (zh : Le Z H) {x y : V} {u v : Value} {b : Bool} (rx : RelV x u) (ry : RelV y v) (h : LstI X.K T ops Z H x y b) :
    wpAny (model X.prog X.w) X.A (richCompare .NotEq u v) (fun r s' => r = .bool (!b) ∧ ∃ Z' H', Inv X pins σ H' s' ∧ Ext4 Z H Z' H') X.xe s := by
  obtain ⟨p, q, vs, ws, ds, es, rfl, rfl, h1, h2, rd, re, hb, hb2⟩ := h
  obtain rfl : u = Value.ref p := rx
  obtain rfl : v = Value.ref q := ry
  obtain ⟨its, r, ⟨⟨cls, dd, data, sl⟩, n, ho, c1, c0, c2⟩, _⟩ := I.list h1
  obtain ⟨its2, r2, ⟨⟨cls2, dd2, data2, sl2⟩, n2, ho2, c3, c5, c4⟩, _⟩ := I.list h2
  simp only at c1 c2 c3 c4 c0 c5
  subst c1 c2 c3 c4 c0 c5
  have l1 : its.toArray.size = ds.length := by rw [List.size_toArray, ← r.length, rd.length]
  have l2 : its2.toArray.size = es.length := by rw [List.size_toArray, ← r2.length, re.length]
  refine wpAny_richCompare_same_room (op := .NotEq) ⟨_, ho, rfl⟩ ⟨_, ho2, rfl⟩ F.slot_list_ne (GQ.call_here F.slot_list_ne ⟨_, ho, rfl⟩ F.entry_list_ne (F.args_list_ne_2 _ _) ?_) hr.units0
  by_cases hl : ds.length = es.length
  · refine ne_listB (R := wants (fun v s' => v ≠ .notImplemented ∧ _) X.xe) p q ds.length (SqI X T ops pins σ Z H ds es b) (fun s' => SqF X pins σ Z H b s') ⟨fun i s' l => ?_, fun i s' l items items2 m m2 e e2 t t2 k1 k2 z1 z2 => ?_⟩ (fun s' l => ?_) (fun s' l => ?_) ⟨Z, H, I, Ext4.refl zh, hb hl⟩
    · obtain ⟨Z1, H1, I1, e1, hq⟩ := l
      exact lstAt_of I1 (e1.hh.seqL h1) (e1.hh.seqL h2) rd.length (by rw [re.length, hl])
    · obtain ⟨Z1, H1, I1, e1, hq⟩ := id l
      obtain ⟨its', r', ⟨o, nn, ho', _, _, d'⟩, _⟩ := I1.list (e1.hh.seqL h1)
      obtain ⟨its2', r2', ⟨o2, nn2, ho2', _, _, d2'⟩, _⟩ := I1.list (e1.hh.seqL h2)
      rw [k1] at ho'
      rw [k2] at ho2'
      cases ho'
      cases ho2'
      injection d' with d' _
      injection d2' with d2' _
      subst d' d2'
      refine wpAny_mono (turnI D hr rfl rfl hc rd re r' r2' i z1 z2 s' l) (fun r s2 z => ?_) fun _ _ x => x
      rcases z with z | ⟨z1, z2, Z2, H2, I2, e2⟩
      · exact .inl z
      · exact .inr ⟨z1, lstAt_of I2 (e2.hh.seqL h1) (e2.hh.seqL h2) rd.length (by rw [re.length, hl]), z2, Z2, H2, I2, e2⟩
    · obtain ⟨Z1, H1, I1, e1, hq⟩ := l
      rw [List.drop_length, hl, List.drop_length] at hq
      cases hq
      exact ⟨(fun x => nomatch x), rfl, Z1, H1, I1, e1⟩
    · obtain ⟨rfl, Z1, H1, I1, e1⟩ := l
      exact ⟨(fun x => nomatch x), rfl, Z1, H1, I1, e1⟩
  · obtain rfl := hb2 hl
    exact ne_listS (R := wants (fun v s' => v ≠ .notImplemented ∧ _) X.xe) p q its.toArray its2.toArray n n2 _ _ sl sl2 (by rw [l1, l2]; simpa using hl) ho ho2 ⟨(fun x => nomatch x), rfl, Z, H, I, Ext4.refl zh⟩
end
noncomputable def eqSeq (ops : Nat → Option Fn) : Rs → Rs → Option Bool
  | .fro (.tup ds), .fro (.tup es) => seqI ops ds es
  | x, y => match asL x, asL y with
    | some ds, some es => if ds.length = es.length then seqI ops ds es else some false
    | _, _ => none
theorem eqSeq_rep {K : PySem.W.Frag} {T : Tab} {B Z H : Hp} {ops : Nat → Option Fn} {v w : V} {x y : Rs} {b : Bool} (r1 : RRep K T B Z H v x) (r2 : RRep K T B Z H w y) (zh : Le Z H) (h : eqSeq ops x y = some b) : TupI K T ops Z H v w b ∨ LstI K T ops Z H v w b := by
  unfold eqSeq at h
  split at h
  · simp only [RRep, Rep] at r1 r2
    obtain ⟨p, vs, rfl, h1, h2⟩ := r1
    obtain ⟨q, ws, rfl, h3, h4⟩ := r2
    exact .inl ⟨p, q, vs, ws, _, _, rfl, rfl, zh.seqT h1, zh.seqT h3, h2, h4, h⟩
  · split at h
    · rename_i ds es h1 h2
      obtain ⟨p, vs, rfl, a1, a2⟩ := r1.list zh h1
      obtain ⟨q, ws, rfl, a3, a4⟩ := r2.list zh h2
      refine .inr ⟨p, q, vs, ws, ds, es, rfl, rfl, a1, a3, a2, a4, fun l => ?_, fun l => ?_⟩
      · rw [if_pos l] at h; exact h
      · rw [if_neg l] at h; cases h; rfl
    · cases h
section
variable {X : Cx} {T : Tab} {W : WX} {k : Nat} {ops : Nat → Option Fn} {K : PySem.W.Frag} {a b : Expr} {fa fb : FE} {pos : Pos}
def rNeI (K : PySem.W.Frag) (T : Tab) (ops : Nat → Option Fn) : R2 := fun x y H Q => ∃ Z b, Le Z H ∧ (TupI K T ops Z H x y b ∨ LstI K T ops Z H x y b) ∧ ∀ Z' H', Ext4 Z H Z' H' → Q (.bl (!b)) H'
theorem op_NeI (D : MethsOk X T k "__eq__" 2 ops) (hr : Room (k + 1) X.A) (hc : EqC X T ops) : OpR X (compareOp .NotEq) (rNeI X.K T ops) := by
  intro pins s σ H x y v u Q I rx ry ⟨Z, b, zh, hq, q⟩
  show wpAny (model X.prog X.w) X.A (richCompare .NotEq v u) (EP X pins σ Q) X.xe s
  rcases hq with h | h
  · refine wpAny_mono (rc_tup_ne D hr hc I zh rx ry h) (fun r s' z => ?_) fun _ _ x => x
    obtain ⟨rfl, Z', H', I', e⟩ := z
    exact ⟨.bl (!b), H', I', rfl, q Z' H' e⟩
  · refine wpAny_mono (rc_lst_ne D hr hc I zh rx ry h) (fun r s' z => ?_) fun _ _ x => x
    obtain ⟨rfl, Z', H', I', e⟩ := z
    exact ⟨.bl (!b), H', I', rfl, q Z' H' e⟩
noncomputable def gNeI (ops : Nat → Option Fn) : G2 := fun x y => match eqSeq ops x y with
  | some b => vB (!b)
  | none => none
theorem o2_NeI : Op2 K T W (rNeI K T ops) (gNeI ops) := fun σ B Z H x y v w out Q zh r1 r2 hg p => by
  unfold gNeI at hg
  split at hg
  · rename_i b hb
    cases hg
    exact ⟨Z, b, zh, eqSeq_rep r1 r2 zh hb, fun Z' H' e => p.ok _ rfl _ Z' H' e (by simp only [RRep, Rep])⟩
  · cases hg
theorem pdt_NeI (D : MethsOk X T k "__eq__" 2 ops) (hr : Room (k + 1) X.A) (hc : EqC X T ops) (ha : PD X T W a fa) (hb : PD X T W b fb) : PDT X T W (.Compare a [.NotEq] [b] pos) (tB (e2 (gNeI ops) fa fb)) := pdt_cmp (op_NeI D hr hc) o2_NeI ha hb (nomark _)
end
end Pd
set_option maxHeartbeats 2000000
namespace Pd
open PySem PySem.Spec PyProof.Rows L2 PySem.W
section
variable {X : Cx} {T : Tab} {W : WX} {n : Nat} {ks : List Str} {fn : List Dt → List Dt → M Rs} {x : Str} {p pos : Pos} {e : Expr} {es : List Expr} {kws : List Keyword} {fa fk : FA} {id : String}
end
section
variable {X : Cx} {T : Tab} {W : WX} {p pos : Pos} {e : Expr} {kws : List Keyword} {fa fk : FA} {k : Nat}
end
section
variable {X : Cx} {T : Tab} {W : WX} {k n : Nat} {fn : Fn} {x : Str} {p pos : Pos}
end
end Pd
set_option maxHeartbeats 2000000
namespace Pd
open PySem PySem.Spec L2
section
variable (ρ : PEnv) (d : Dt) (i j : Int) (a b : Bool) (f g h : FE) (F H : FS) (ds : List Dt) (n : Nat)
@[simp] theorem eC_eq : eC d ρ = some (.ok (.fro d)) := rfl
@[simp] theorem e2_eq (gg : G2) : e2 gg f g ρ = bnd (f ρ) fun x => bnd (g ρ) fun y => gg x y := rfl
@[simp] theorem e1_eq (gg : G1) : e1 gg f ρ = bnd (f ρ) gg := rfl
@[simp] theorem gAdd_eq : gAdd (.fro (.int i)) (.fro (.int j)) = vI (i + j) := rfl
@[simp] theorem gSub_eq : gSub (.fro (.int i)) (.fro (.int j)) = vI (i - j) := rfl
theorem gMul_eq : gMul (.fro (.int i)) (.fro (.int j)) = if mulOk i j then vI (i * j) else none := rfl
theorem gDiv_eq : gDiv (.fro (.int i)) (.fro (.int j)) = if divOk i j then vI (i.fdiv j) else none := rfl
theorem gMod_eq : gMod (.fro (.int i)) (.fro (.int j)) = if modOk i j then vI (i.fmod j) else none := rfl
theorem gPow_eq : gPow (.fro (.int i)) (.fro (.int j)) = if powOk i j then vI (i ^ j.toNat) else none := rfl
@[simp] theorem gLt_eq : gLt (.fro (.int i)) (.fro (.int j)) = vB (decide (i < j)) := rfl
@[simp] theorem gLe_eq : gLe (.fro (.int i)) (.fro (.int j)) = vB (decide (i ≤ j)) := rfl
@[simp] theorem gGt_eq : gGt (.fro (.int i)) (.fro (.int j)) = vB (decide (j < i)) := rfl
@[simp] theorem gGe_eq : gGe (.fro (.int i)) (.fro (.int j)) = vB (decide (j ≤ i)) := rfl
@[simp] theorem gNeg_eq : gNeg (.fro (.int i)) = vI (-i) := rfl
@[simp] theorem gMin_eq : gMin (.fro (.int i)) (.fro (.int j)) = vI (if j < i then j else i) := rfl
@[simp] theorem gMax_eq : gMax (.fro (.int i)) (.fro (.int j)) = vI (if i < j then j else i) := rfl
@[simp] theorem asI_eq : asI (.fro (.int i)) = some (.ok i) := rfl
@[simp] theorem asB_eq : asB (.fro (.bl a)) = some (.ok a) := rfl
@[simp] theorem tru_bl : tru (.fro (.bl a)) = some (.ok a) := rfl
@[simp] theorem tB_eq : tB f ρ = bnd (f ρ) asB := rfl
@[simp] theorem tTru_eq : tTru f ρ = bnd (f ρ) tru := rfl
@[simp] theorem tNot_eq (t : FT) : tNot t ρ = bnd (t ρ) fun b => some (.ok (!b)) := rfl
@[simp] theorem tAnd_eq (t u : FT) : tAnd t u ρ = bnd (t ρ) fun b => if b then u ρ else some (.ok false) := rfl
@[simp] theorem tOr_eq (t u : FT) : tOr t u ρ = bnd (t ρ) fun b => if b then some (.ok true) else u ρ := rfl
@[simp] theorem eAnd_eq : eAnd f g ρ = bnd (f ρ) fun r => bnd (asB r) fun b => if b then g ρ else vB false := rfl
@[simp] theorem eOr_eq : eOr f g ρ = bnd (f ρ) fun r => bnd (asB r) fun b => if b then vB true else g ρ := rfl
@[simp] theorem eNot_eq : eNot f ρ = bnd (f ρ) fun r => bnd (asB r) fun b => vB (!b) := rfl
@[simp] theorem eIf_eq (t : FT) : eIf t f g ρ = bnd (t ρ) fun b => if b then f ρ else g ρ := rfl
@[simp] theorem eChain_eq (gg gg' : G2) : eChain gg gg' f g h ρ = bnd (f ρ) fun x => bnd (g ρ) fun y => bnd (gg x y) fun z => bnd (asB z) fun b => if b then bnd (h ρ) fun w => gg' y w else vB false := rfl
@[simp] theorem sSet_eq : sSet n f ρ = bndS ρ (f ρ) fun r => match celOf r with | some c => some (.nx (ρ.set n (some c))) | none => none := rfl
@[simp] theorem celOf_fro : celOf (.fro d) = some (.fro d) := rfl
@[simp] theorem celOf_own : celOf (.own ds) = some (.own ds) := rfl
@[simp] theorem sNext_eq : sNext ρ = some (.nx ρ) := rfl
@[simp] theorem sIf_eq (t : FT) : sIf t F H ρ = bndS ρ (t ρ) fun b => if b then F ρ else H ρ := rfl
@[simp] theorem sExpr_eq : sExpr f ρ = bndS ρ (f ρ) fun _ => some (.nx ρ) := rfl
@[simp] theorem aNil_eq : aNil ρ = some (.ok []) := rfl
@[simp] theorem aCons_eq (fs : FA) : aCons f fs ρ = bnd (f ρ) fun r => bnd (frz r) fun d => bnd (fs ρ) fun ds => some (.ok (d :: ds)) := rfl
@[simp] theorem eLst_eq (fs : FA) : eLst fs ρ = bnd (fs ρ) fun ds => if ds.length ≤ LINE then some (.ok (.own ds)) else none := rfl
@[simp] theorem eTup_eq (fs : FA) : eTup fs ρ = bnd (fs ρ) fun ds => if ds.length ≤ LINE then some (.ok (.fro (.tup ds))) else none := rfl
@[simp] theorem sFor_eq (it : FIt) (gt : GT) : sFor it gt F ρ = bndS ρ (it ρ) fun ds => forD gt F ds ρ := rfl
@[simp] theorem gtName_eq : gtName n d ρ = some (ρ.set n (some (.fro d))) := rfl
@[simp] theorem eCa_eq (fn : Fn) (fa : FA) : eCa n fn fa ρ = bnd (fa ρ) fun ds => if ds.length = n then fn ds else none := by
  unfold eCa eCall
  cases fa ρ with
  | none => rfl
  | some x =>
    cases x with
    | ex c es => rfl
    | ok ds =>
      show (if ds.length = n ∧ ([] : List Dt).length = 0 then fn ds else none) = (if ds.length = n then fn ds else none)
      simp
theorem eCa_run {fn : Fn} {fa : FA} {ρ : PEnv} {ds : List Dt} {n : Nat} (h : fa ρ = some (.ok ds)) (hl : ds.length = n := by rfl) : eCa n fn fa ρ = fn ds := by
  rw [eCa_eq, h, bnd_ok, if_pos hl]
@[simp] theorem gEqS_int : gEqS (.fro (.int i)) (.fro (.int j)) = vB (decide (i = j)) := by
  unfold gEqS sclD
  simp
@[simp] theorem gNeS_int : gNeS (.fro (.int i)) (.fro (.int j)) = vB (!decide (i = j)) := by
  unfold gNeS sclD
  simp
theorem sSeq_nx {ρ ρ' : PEnv} {F H : FS} (h : F ρ = some (.nx ρ')) : sSeq F H ρ = H ρ' := by unfold sSeq; rw [h]
theorem sSeq_rt {ρ : PEnv} {F H : FS} {r : Rs} (h : F ρ = some (.rt r)) : sSeq F H ρ = some (.rt r) := by unfold sSeq; rw [h]
end
theorem p18 : (10 : Int) ^ 18 = 1000000000000000000 := by decide +kernel
@[simp] theorem gPow_18 : gPow (.fro (.int 10)) (.fro (.int 18)) = vI 1000000000000000000 := by
  rw [gPow_eq, if_pos (by decide), show (18 : Int).toNat = 18 from rfl, p18]
theorem rng1_run {f : FE} {ρ : PEnv} {n : Int} (h : f ρ = some (.ok (.fro (.int n)))) (hr : rOk n = true) : iRng1 f ρ = some (.ok (intsFrom 0 n.toNat)) := by
  unfold iRng1
  rw [h, bnd_ok, asI_eq, bnd_ok, hr]
  rfl
theorem rngD_run {f g : FE} {ρ : PEnv} {m n : Int} (h : f ρ = some (.ok (.fro (.int m)))) (h' : g ρ = some (.ok (.fro (.int n)))) (hm : rOk m = true) (hn : rOk n = true) : iRngD f g ρ = some (.ok (intsBy m (-1) (m - n).toNat)) := by
  unfold iRngD
  rw [h, bnd_ok, h', bnd_ok, asI_eq, bnd_ok, asI_eq, bnd_ok, hm, hn]
  rfl
theorem for_run {it : FIt} {gt : GT} {F : FS} {ρ : PEnv} {ds : List Dt} (h : it ρ = some (.ok ds)) : sFor it gt F ρ = forD gt F ds ρ := by
  unfold sFor
  rw [h, bndS_ok]
theorem log2_lt {x a : Nat} (h : x < 2 ^ a) (ha : 0 < a) : x.log2 < a := by
  by_cases z : x = 0
  · subst z; simpa using ha
  · exact (Nat.log2_lt z).mpr h
theorem mulOk_of {i j : Int} (a b : Nat) (h1 : i.natAbs < 2 ^ a) (h2 : j.natAbs < 2 ^ b) (h : a + b ≤ 100000000 := by decide) (ha : 0 < a := by decide) (hb : 0 < b := by decide) : mulOk i j = true := by
  unfold mulOk
  have := log2_lt h1 ha
  have := log2_lt h2 hb
  exact decide_eq_true (by omega)
theorem divOk_ne {i j : Int} (h0 : j ≠ 0) : divOk i j = true := decide_eq_true h0
theorem modOk_of {i j : Int} (h0 : j ≠ 0) : modOk i j = true := decide_eq_true h0
theorem rOk_of {i : Int} (h1 : -1000000000000000000 ≤ i) (h2 : i ≤ 1000000000000000000) : rOk i = true := by
  unfold rOk
  simp only [Bool.and_eq_true, decide_eq_true_eq]
  constructor <;> omega
theorem fmod_pos {i j : Int} (h : 0 < j) : 0 ≤ i.fmod j ∧ i.fmod j < j := ⟨Int.fmod_nonneg_of_pos i h, Int.fmod_lt_of_pos i h⟩
theorem bits_lt {z : Int} {n : Nat} (h : Builtin.Int.intBits z ≤ n) : z.natAbs < 2 ^ n := by
  unfold Builtin.Int.intBits at h
  split at h
  · rename_i e
    have : z = 0 := by simpa using e
    subst this
    exact Nat.pow_pos (by decide)
  · have : z.natAbs ≠ 0 := by
      rename_i e
      intro q
      have : z = 0 := by omega
      subst this
      simp at e
    exact (Nat.log2_lt this).mp (by omega)
@[simp] theorem gIx_bor {ds : List Dt} {i : Int} : gIx (.bor ds) (.fro (.int i)) = (match atI ds i with | some d => some (.ok (.fro d)) | none => none) := rfl
@[simp] theorem gIx_lst {ds : List Dt} {i : Int} : gIx (.fro (.lst ds)) (.fro (.int i)) = (match atI ds i with | some d => some (.ok (.fro d)) | none => none) := rfl
@[simp] theorem gIx_tup {ds : List Dt} {i : Int} : gIx (.fro (.tup ds)) (.fro (.int i)) = (match atI ds i with | some d => some (.ok (.fro d)) | none => none) := rfl
@[simp] theorem gLen_bor {ds : List Dt} : gLen (.bor ds) = vI ds.length := rfl
@[simp] theorem gLen_own {ds : List Dt} : gLen (.own ds) = vI ds.length := rfl
@[simp] theorem gLen_lst {ds : List Dt} : gLen (.fro (.lst ds)) = vI ds.length := rfl
@[simp] theorem gLen_tup {ds : List Dt} : gLen (.fro (.tup ds)) = vI ds.length := rfl
end Pd
set_option maxHeartbeats 2000000
namespace Pd
open PySem PySem.Spec L2
theorem fnD_run {np nl : Nat} {F : FS} {args : List Dt} (h : args.length = np) : fnD np nl F args = outR (F (args.map (fun d => some (.fro d)) ++ List.replicate nl none)) := if_pos h
abbrev cD (d : Dt) : Option Cel := some (.fro d)
abbrev cO (ds : List Dt) : Option Cel := some (.own ds)
theorem natAbs_add_lt {n : Nat} {x y : Int} (h1 : x.natAbs < 2 ^ n) (h2 : y.natAbs < 2 ^ n) : (x + y).natAbs < 2 ^ (n + 1) := by
  rw [Nat.pow_succ]
  generalize (2 : Nat) ^ n = A at *
  omega
theorem pow_lt_mono {x m n : Nat} (h : x < 2 ^ m) (hn : m ≤ n) : x < 2 ^ n := Nat.lt_of_lt_of_le h (Nat.pow_le_pow_right (by decide) hn)
theorem mul_small {z c : Int} {n : Nat} (h : z.natAbs < 2 ^ n) (hc : c.natAbs < 2 ^ 20) (hn0 : 0 < n) (hn : n ≤ 90000000) : mulOk z c = true := mulOk_of n 20 h hc (by omega) hn0
theorem cell_okN {n : Nat} (hn1 : 30 ≤ n) (hn2 : n ≤ 80000000) {ns : List Int} (hb : ∀ z ∈ ns, Builtin.Int.intBits z ≤ n) {a : Int} (ha : a ∈ ns) {i : Nat} (hi : i ≤ 1000) : mulOk (a + 7919 * (i : Int)) 48271 = true :=
  mul_small (n := n + 1) (natAbs_add_lt (bits_lt (hb a ha)) (pow_lt_mono (m := 30) (by omega) hn1)) (by decide) (by omega) (by omega)
theorem cell_ok {ns : List Int} (hb : ∀ z ∈ ns, Builtin.Int.intBits z ≤ 1048576) {a : Int} (ha : a ∈ ns) {i : Nat} (hi : i ≤ 1000) : mulOk (a + 7919 * (i : Int)) 48271 = true :=
  cell_okN (n := 1048576) (by omega) (by omega) hb ha hi
end Pd
set_option maxHeartbeats 2000000
namespace Pd
open PySem PySem.Spec L2
class Sm (x : Int) (n : outParam Nat) : Prop where
  lt : x.natAbs < 2 ^ n
  pos : 0 < n
theorem Sm.of {x : Int} {n : Nat} (h : x.natAbs < 2 ^ n) (p : 0 < n) : Sm x n := ⟨h, p⟩
instance Sm.mul {x y : Int} {a b : Nat} [h : Sm x a] [k : Sm y b] : Sm (x * y) (a + b) := ⟨by
  rw [Int.natAbs_mul, Nat.pow_add]
  exact Nat.mul_lt_mul'' h.lt k.lt, Nat.add_pos_left h.pos b⟩
theorem pow_max {A B : Nat} (a b : Nat) (hA : A < 2 ^ a) (hB : B < 2 ^ b) : A + B < 2 ^ (a + b + 1) := by
  have h1 : 2 ^ a ≤ 2 ^ (a + b) := Nat.pow_le_pow_right (by decide) (by omega)
  have h2 : 2 ^ b ≤ 2 ^ (a + b) := Nat.pow_le_pow_right (by decide) (by omega)
  rw [Nat.pow_succ]
  generalize 2 ^ (a + b) = C at *
  omega
instance Sm.add {x y : Int} {a b : Nat} [h : Sm x a] [k : Sm y b] : Sm (x + y) (a + b + 1) := ⟨Nat.lt_of_le_of_lt (Int.natAbs_add_le x y) (pow_max a b h.lt k.lt), Nat.succ_pos _⟩
instance Sm.neg {x : Int} {a : Nat} [h : Sm x a] : Sm (-x) a := ⟨by rw [Int.natAbs_neg]; exact h.lt, h.pos⟩
instance Sm.sub {x y : Int} {a b : Nat} [h : Sm x a] [k : Sm y b] : Sm (x - y) (a + b + 1) := by
  rw [Int.sub_eq_add_neg]
  exact Sm.add
instance (priority := low) Sm.lit {n : Nat} : Sm (no_index (OfNat.ofNat n : Int)) (n.log2 + 1) := ⟨by
  show n < 2 ^ (n.log2 + 1)
  exact Nat.lt_log2_self, Nat.succ_pos _⟩
theorem sm_range {x : Int} {n : Nat} (lo hi : Int) (h1 : lo ≤ x) (h2 : x ≤ hi) (hl : (-(2 ^ n : Nat) : Int) < lo) (hh : hi < (2 ^ n : Nat)) (p : 0 < n) : Sm x n := ⟨by omega, p⟩
theorem sIf_t {t : FT} {F G : FS} {ρ : PEnv} (h : t ρ = some (.ok true)) : sIf t F G ρ = F ρ := by
  rw [sIf_eq, h]
  rfl
theorem sIf_f {t : FT} {F G : FS} {ρ : PEnv} (h : t ρ = some (.ok false)) : sIf t F G ρ = G ρ := by
  rw [sIf_eq, h]
  rfl
theorem sSet_run {n : Nat} {f : FE} {ρ : PEnv} {r : Rs} {c : Cel} (h : f ρ = some (.ok r)) (hc : celOf r = some c := by rfl) : sSet n f ρ = some (.nx (ρ.set n (some c))) := by
  rw [sSet_eq, h, bndS_ok, hc]
section
variable (i j : Int) (c : Nat) (ds as : List Dt) (d : Dt) (ρ : PEnv)
end
theorem while_end {t : FT} {body : FS} {ρ : PEnv} (h : t ρ = some (.ok false)) : whileD t body 1 ρ = some (.nx ρ) := by
  unfold whileD
  rw [h]
  rfl
theorem while_step {t : FT} {body : FS} {ρ ρ2 : PEnv} {o : Out} {m : Nat} (h : t ρ = some (.ok true)) (hb : body ρ = some (.nx ρ2)) (r : whileD t body m ρ2 = some o) : whileD t body (m + 1) ρ = some o := by
  unfold whileD
  rw [h, bndS_ok, if_pos rfl, hb]
  exact r
end Pd
set_option maxHeartbeats 4000000
namespace G
open PySem PySem.Spec L2 Pd
def top (i : Nat) : Stmt := PySem.Challenge.pw_certsums_k11_common_divisor.main.body.getD i (.Pass ⟨0, 0, 0, 0⟩)
abbrev s_law_numbers : Stmt := top 19
abbrev s_law_coefs : Stmt := top 23
abbrev s_law_product : Stmt := top 24
abbrev s_trimmed : Stmt := top 9
abbrev s_content : Stmt := top 10
abbrev s_Poly_init : Stmt := inClass (top 11) 0
abbrev s_Poly_is_zero : Stmt := inClass (top 11) 4
abbrev s_primitive : Stmt := top 15
abbrev s_divide : Stmt := top 13
abbrev s_Fraction_init : Stmt := inClass (top 7) 0
abbrev s_Poly_lead : Stmt := inClass (top 11) 5
abbrev s_Fraction_over : Stmt := inClass (top 7) 8
abbrev s_Poly_scaled : Stmt := inClass (top 11) 14
abbrev s_monic : Stmt := top 14
abbrev s_common_divisor : Stmt := top 16
abbrev s_law_is_integer : Stmt := top 20
abbrev s_law_divisor : Stmt := top 21
abbrev s_law_poly_is : Stmt := top 22
abbrev s_law_trimmed : Stmt := top 25
abbrev s_law_reduced : Stmt := top 27
abbrev s_law_rest : Stmt := top 26
abbrev s_law_degree : Stmt := top 28
abbrev s_law_is_divisor : Stmt := top 29
abbrev s_common_divisor_of : Stmt := top 17
abbrev s_Poly_eq : Stmt := inClass (top 11) 7
abbrev s_law : Stmt := top 30
def fls (c : Nat) : List Str := match c with
  | 20 => ["num", "den"]
  | 21 => ["coefs", "den"]
  | _ => []
def tab (K : PySem.W.Frag) : Tab := ⟨fun c => match c with
  | 0 => He.ga K "SummationError"
  | 1 => He.ga K "DivisionByZero"
  | 2 => He.ga K "ZeroPolynomial"
  | 20 => He.ga K "Fraction"
  | 21 => He.ga K "Poly"
  | _ => 0, fls⟩
noncomputable abbrev b_law_numbers_0 : FS :=
  sSet 2 (e2 gIx (eVar 0) (eC (.int 0)))
noncomputable abbrev b_law_numbers_1 : FS :=
  sSet 2 (e2 gDiv (eVar 2) (eC (.int 1000000)))
noncomputable abbrev b_law_numbers_2 : FS :=
  sSeq (sApp 4 (e2 gMod (eVar 2) (eC (.int 1000000))))
  b_law_numbers_1
noncomputable abbrev b_law_numbers_3 : FS :=
  sSet 6 (e2 gAdd (e2 gIx (eVar 0) (e2 gMod (eVar 5) (e1 gLen (eVar 0)))) (e2 gMul (eC (.int 7919)) (eVar 5)))
noncomputable abbrev b_law_numbers_4 : FS :=
  sApp 4 (e2 gMod (e2 gMod (e2 gMul (e2 gMod (e2 gMul (eVar 6) (eC (.int 48271))) (eC (.int 2147483647))) (eC (.int 69621))) (eC (.int 2147483629))) (eC (.int 1000000)))
noncomputable abbrev b_law_numbers_5 : FS :=
  sSeq (sIf (tB (e2 gGt (e1 gLen (eVar 0)) (eC (.int 0))))
  b_law_numbers_3
  sNext)
  b_law_numbers_4
noncomputable abbrev b_law_numbers_6 : FS :=
  sSeq (sSet 6 (eC (.int 13)))
  b_law_numbers_5
noncomputable abbrev b_law_numbers_7 : FS :=
  sIf (tAnd (tTru (eVar 3)) (tB (e2 gGt (eVar 2) (eC (.int 0)))))
  b_law_numbers_2
  b_law_numbers_6
noncomputable abbrev b_law_numbers_8 : FS :=
  sRetV 4
noncomputable abbrev b_law_numbers_9 : FS :=
  sSeq (sFor (iRng1 (eVar 1)) (gtName 5)
  b_law_numbers_7)
  b_law_numbers_8
noncomputable abbrev b_law_numbers_10 : FS :=
  sSeq (sSet 4 (eLst aNil))
  b_law_numbers_9
noncomputable abbrev b_law_numbers_11 : FS :=
  sSeq (sSet 3 (e2 gGe (eVar 2) (e2 gPow (eC (.int 10)) (eC (.int 18)))))
  b_law_numbers_10
noncomputable abbrev b_law_numbers_12 : FS :=
  sSeq (sIf (tB (e2 gGt (e1 gLen (eVar 0)) (eC (.int 0))))
  b_law_numbers_0
  sNext)
  b_law_numbers_11
noncomputable abbrev b_law_numbers_13 : FS :=
  sSeq (sSet 2 (eC (.int 0)))
  b_law_numbers_12
noncomputable abbrev b_law_numbers : FS := b_law_numbers_13
noncomputable def f_law_numbers : Fn := fnD 2 5 b_law_numbers
noncomputable abbrev b_law_coefs_0 : FS :=
  sApp 3 (eC (.int 0))
noncomputable abbrev b_law_coefs_1 : FS :=
  sApp 3 (e2 gSub (e2 gMod (e2 gDiv (eVar 5) (eC (.int 4))) (eC (.int 25))) (eC (.int 12)))
noncomputable abbrev b_law_coefs_2 : FS :=
  sIf (tB (e2 gEqS (e2 gMod (eVar 5) (eC (.int 4))) (eC (.int 1))))
  b_law_coefs_0
  b_law_coefs_1
noncomputable abbrev b_law_coefs_3 : FS :=
  sSeq (sSet 5 (e2 gIx (eVar 0) (e2 gAdd (eVar 1) (eVar 4))))
  b_law_coefs_2
noncomputable abbrev b_law_coefs_4 : FS :=
  sRetV 3
noncomputable abbrev b_law_coefs_5 : FS :=
  sSeq (sFor (iRng1 (eVar 2)) (gtName 4)
  b_law_coefs_3)
  b_law_coefs_4
noncomputable abbrev b_law_coefs_6 : FS :=
  sSeq (sSet 3 (eLst aNil))
  b_law_coefs_5
noncomputable abbrev b_law_coefs : FS := b_law_coefs_6
noncomputable def f_law_coefs : Fn := fnD 3 3 b_law_coefs
noncomputable abbrev b_law_product_0 : FS :=
  sSetIx 2 (e2 gAdd (eVar 4) (eVar 5)) (e2 gAdd (e2 gIx (eVar 2) (e2 gAdd (eVar 4) (eVar 5))) (e2 gMul (e2 gIx (eVar 0) (eVar 4)) (e2 gIx (eVar 1) (eVar 5))))
noncomputable abbrev b_law_product_1 : FS :=
  sFor (iRng1 (e1 gLen (eVar 1))) (gtName 5)
  b_law_product_0
noncomputable abbrev b_law_product_2 : FS :=
  sRetV 2
noncomputable abbrev b_law_product_3 : FS :=
  sSeq (sFor (iRng1 (e1 gLen (eVar 0))) (gtName 4)
  b_law_product_1)
  b_law_product_2
noncomputable abbrev b_law_product_4 : FS :=
  sSeq (sSet 2 (eLc [3] (iRng1 (e2 gAdd (e1 gLen (eVar 0)) (e1 gLen (eVar 1)))) (gtName 3) tTrue (eC (.int 0))))
  b_law_product_3
noncomputable abbrev b_law_product : FS := b_law_product_4
noncomputable def f_law_product : Fn := fnD 2 4 b_law_product
noncomputable abbrev b_trimmed_0 : FS :=
  sAug gSub 1 (eC (.int 1))
noncomputable abbrev b_trimmed_1 : FS :=
  sRet (eSl (eVar 0) oNone (oSome (eVar 1)))
noncomputable abbrev b_trimmed_2 : FS :=
  sSeq (sWhile (tAnd (tB (e2 gGt (eVar 1) (eC (.int 0)))) (tB (e2 gEqS (e2 gIx (eVar 0) (e2 gSub (eVar 1) (eC (.int 1)))) (eC (.int 0)))))
  b_trimmed_0)
  b_trimmed_1
noncomputable abbrev b_trimmed_3 : FS :=
  sSeq (sSet 1 (e1 gLen (eVar 0)))
  b_trimmed_2
noncomputable abbrev b_trimmed : FS := b_trimmed_3
noncomputable def f_trimmed : Fn := fnD 1 1 b_trimmed
noncomputable abbrev b_content_0 : FS :=
  sSet 1 (e2 gGcd (eVar 1) (eVar 2))
noncomputable abbrev b_content_1 : FS :=
  sRetV 1
noncomputable abbrev b_content_2 : FS :=
  sSeq (sFor (iSeq (eVar 0)) (gtName 2)
  b_content_0)
  b_content_1
noncomputable abbrev b_content_3 : FS :=
  sSeq (sSet 1 (eC (.int 0)))
  b_content_2
noncomputable abbrev b_content : FS := b_content_3
noncomputable def f_content : Fn := fnD 1 2 b_content
noncomputable abbrev b_Poly_init_0 : FS :=
  sRaise 1
noncomputable abbrev b_Poly_init_1 : FS :=
  sSet 4 (e1 gNeg (eVar 4))
noncomputable abbrev b_Poly_init_2 : FS :=
  sFld 0 21 1 (e2 gDiv (eVar 2) (eVar 4))
noncomputable abbrev b_Poly_init_3 : FS :=
  sSeq (sFld 0 21 0 (eBor 3 (e1 gTuple (eLc [5] (iSeq (eVar 3)) (gtName 5) tTrue (e2 gDiv (eVar 5) (eVar 4))))))
  b_Poly_init_2
noncomputable abbrev b_Poly_init_4 : FS :=
  sSeq (sIf (tB (e2 gLt (eVar 2) (eC (.int 0))))
  b_Poly_init_1
  sNext)
  b_Poly_init_3
noncomputable abbrev b_Poly_init_5 : FS :=
  sSeq (sSet 4 (eBor 3 (e2 gGcd (eCa 1 f_content (aCons (eVar 3) aNil)) (eVar 2))))
  b_Poly_init_4
noncomputable abbrev b_Poly_init_6 : FS :=
  sSeq (sSet 3 (eCa 1 f_trimmed (aCons (e1 gList (eVar 1)) aNil)))
  b_Poly_init_5
noncomputable abbrev b_Poly_init_7 : FS :=
  sSeq (sIf (tB (e2 gEqS (eVar 2) (eC (.int 0))))
  b_Poly_init_0
  sNext)
  b_Poly_init_6
noncomputable abbrev b_Poly_init : FS := b_Poly_init_7
noncomputable def i_Poly : FI := fnI 21 2 2 3 b_Poly_init
noncomputable def m_Poly : Fn := mkD 21 i_Poly
noncomputable abbrev b_Poly_is_zero_0 : FS :=
  sRet (e2 gEqS (e1 gLen (e1 (gFld (tbl [(21, 0)])) (eVar 0))) (eC (.int 0)))
noncomputable abbrev b_Poly_is_zero : FS := b_Poly_is_zero_0
noncomputable def f_Poly_is_zero : Fn := fnD 1 0 b_Poly_is_zero
noncomputable abbrev b_primitive_0 : FS :=
  sRetV 0
noncomputable abbrev b_primitive_1 : FS :=
  sRet (eCa 2 m_Poly (aCons (e1 (gFld (tbl [(21, 0)])) (eVar 0)) (aCons (eCa 1 f_content (aCons (e1 (gFld (tbl [(21, 0)])) (eVar 0)) aNil)) aNil)))
noncomputable abbrev b_primitive_2 : FS :=
  sSeq (sIf (tTru (e1 (gAtt (tbl []) (tbl [(21, f_Poly_is_zero)])) (eVar 0)))
  b_primitive_0
  sNext)
  b_primitive_1
noncomputable abbrev b_primitive : FS := b_primitive_2
noncomputable def f_primitive : Fn := fnD 1 0 b_primitive
noncomputable abbrev b_divide_0 : FS :=
  sRaise 2
noncomputable abbrev b_divide_1 : FS :=
  sSetIx 4 (e2 gAdd (eVar 8) (eVar 10)) (e2 gSub (e2 gIx (eVar 4) (e2 gAdd (eVar 8) (eVar 10))) (e2 gMul (eVar 9) (e2 gIx (e1 (gFld (tbl [(21, 0)])) (eVar 1)) (eVar 10))))
noncomputable abbrev b_divide_2 : FS :=
  sSet 7 (e2 gMul (eVar 7) (eVar 3))
noncomputable abbrev b_divide_3 : FS :=
  sSeq (sSetIx 5 (eVar 8) (e2 gAdd (e2 gIx (eVar 5) (eVar 8)) (eVar 9)))
  b_divide_2
noncomputable abbrev b_divide_4 : FS :=
  sSeq (sFor (iRng1 (eVar 2)) (gtName 10)
  b_divide_1)
  b_divide_3
noncomputable abbrev b_divide_5 : FS :=
  sSeq (sFrz 5 (sSet 5 (eLc [11] (iSeq (eVar 5)) (gtName 11) tTrue (e2 gMul (eVar 3) (eVar 11)))))
  b_divide_4
noncomputable abbrev b_divide_6 : FS :=
  sSeq (sFrz 4 (sSet 4 (eLc [11] (iSeq (eVar 4)) (gtName 11) tTrue (e2 gMul (eVar 3) (eVar 11)))))
  b_divide_5
noncomputable abbrev b_divide_7 : FS :=
  sSeq (sSet 9 (e2 gIx (eVar 4) (e2 gSub (e2 gAdd (eVar 8) (eVar 2)) (eC (.int 1)))))
  b_divide_6
noncomputable abbrev b_divide_8 : FS :=
  sRet (eBor 4 (eBor 5 (eTup (aCons (eCa 2 m_Poly (aCons (eLc [11] (iSeq (eVar 5)) (gtName 11) tTrue (e2 gMul (eVar 11) (e1 (gFld (tbl [(21, 1)])) (eVar 1)))) (aCons (eVar 12) aNil))) (aCons (eCa 2 m_Poly (aCons (eVar 4) (aCons (eVar 12) aNil))) aNil)))))
noncomputable abbrev b_divide_9 : FS :=
  sSeq (sSet 12 (e2 gMul (eVar 7) (e1 (gFld (tbl [(21, 1)])) (eVar 0))))
  b_divide_8
noncomputable abbrev b_divide_10 : FS :=
  sSeq (sFor (iRngD (e2 gSub (e1 gLen (eVar 5)) (eC (.int 1))) (e1 gNeg (eC (.int 1)))) (gtName 8)
  b_divide_7)
  b_divide_9
noncomputable abbrev b_divide_11 : FS :=
  sSeq (sSet 7 (eC (.int 1)))
  b_divide_10
noncomputable abbrev b_divide_12 : FS :=
  sSeq (sSet 5 (eLc [6] (iRng1 (e2 gAdd (e2 gSub (e1 gLen (eVar 4)) (eVar 2)) (eC (.int 1)))) (gtName 6) tTrue (eC (.int 0))))
  b_divide_11
noncomputable abbrev b_divide_13 : FS :=
  sSeq (sSet 4 (e1 gList (e1 (gFld (tbl [(21, 0)])) (eVar 0))))
  b_divide_12
noncomputable abbrev b_divide_14 : FS :=
  sSeq (sSet 3 (e2 gIx (e1 (gFld (tbl [(21, 0)])) (eVar 1)) (e2 gSub (eVar 2) (eC (.int 1)))))
  b_divide_13
noncomputable abbrev b_divide_15 : FS :=
  sSeq (sSet 2 (e1 gLen (e1 (gFld (tbl [(21, 0)])) (eVar 1))))
  b_divide_14
noncomputable abbrev b_divide_16 : FS :=
  sSeq (sIf (tTru (e1 (gAtt (tbl []) (tbl [(21, f_Poly_is_zero)])) (eVar 1)))
  b_divide_0
  sNext)
  b_divide_15
noncomputable abbrev b_divide : FS := b_divide_16
noncomputable def f_divide : Fn := fnD 2 11 b_divide
noncomputable abbrev b_Fraction_init_0 : FS :=
  sRaise 1
noncomputable abbrev b_Fraction_init_1 : FS :=
  sSet 3 (e1 gNeg (eVar 3))
noncomputable abbrev b_Fraction_init_2 : FS :=
  sFld 0 20 1 (e2 gDiv (eVar 2) (eVar 3))
noncomputable abbrev b_Fraction_init_3 : FS :=
  sSeq (sFld 0 20 0 (e2 gDiv (eVar 1) (eVar 3)))
  b_Fraction_init_2
noncomputable abbrev b_Fraction_init_4 : FS :=
  sSeq (sIf (tB (e2 gLt (eVar 2) (eC (.int 0))))
  b_Fraction_init_1
  sNext)
  b_Fraction_init_3
noncomputable abbrev b_Fraction_init_5 : FS :=
  sSeq (sSet 3 (e2 gGcd (eVar 1) (eVar 2)))
  b_Fraction_init_4
noncomputable abbrev b_Fraction_init_6 : FS :=
  sSeq (sIf (tB (e2 gEqS (eVar 2) (eC (.int 0))))
  b_Fraction_init_0
  sNext)
  b_Fraction_init_5
noncomputable abbrev b_Fraction_init : FS := b_Fraction_init_6
noncomputable def i_Fraction : FI := fnI 20 2 2 1 b_Fraction_init
noncomputable def m_Fraction : Fn := mkD 20 i_Fraction
noncomputable abbrev b_Poly_lead_0 : FS :=
  sRet (eCa 1 (fun ds => m_Fraction ((fun ds => ds ++ [(.int 1)]) ds)) (aCons (eC (.int 0)) aNil))
noncomputable abbrev b_Poly_lead_1 : FS :=
  sRet (eCa 2 m_Fraction (aCons (e2 gIx (e1 (gFld (tbl [(21, 0)])) (eVar 0)) (e1 gNeg (eC (.int 1)))) (aCons (e1 (gFld (tbl [(21, 1)])) (eVar 0)) aNil)))
noncomputable abbrev b_Poly_lead_2 : FS :=
  sSeq (sIf (tB (e2 gEqS (e1 gLen (e1 (gFld (tbl [(21, 0)])) (eVar 0))) (eC (.int 0))))
  b_Poly_lead_0
  sNext)
  b_Poly_lead_1
noncomputable abbrev b_Poly_lead : FS := b_Poly_lead_2
noncomputable def f_Poly_lead : Fn := fnD 1 0 b_Poly_lead
noncomputable abbrev b_Fraction_over_0 : FS :=
  sRaise 1
noncomputable abbrev b_Fraction_over_1 : FS :=
  sRet (eCa 2 m_Fraction (aCons (e2 gMul (e1 (gFld (tbl [(20, 0)])) (eVar 0)) (e1 (gFld (tbl [(20, 1)])) (eVar 1))) (aCons (e2 gMul (e1 (gFld (tbl [(20, 1)])) (eVar 0)) (e1 (gFld (tbl [(20, 0)])) (eVar 1))) aNil)))
noncomputable abbrev b_Fraction_over_2 : FS :=
  sSeq (sIf (tB (e2 gEqS (e1 (gFld (tbl [(20, 0)])) (eVar 1)) (eC (.int 0))))
  b_Fraction_over_0
  sNext)
  b_Fraction_over_1
noncomputable abbrev b_Fraction_over : FS := b_Fraction_over_2
noncomputable def f_Fraction_over : Fn := fnD 2 0 b_Fraction_over
noncomputable abbrev b_Poly_scaled_0 : FS :=
  sRet (eCa 2 m_Poly (aCons (eLc [2] (iSeq (e1 (gFld (tbl [(21, 0)])) (eVar 0))) (gtName 2) tTrue (e2 gMul (eVar 2) (e1 (gFld (tbl [(20, 0)])) (eVar 1)))) (aCons (e2 gMul (e1 (gFld (tbl [(21, 1)])) (eVar 0)) (e1 (gFld (tbl [(20, 1)])) (eVar 1))) aNil)))
noncomputable abbrev b_Poly_scaled : FS := b_Poly_scaled_0
noncomputable def f_Poly_scaled : Fn := fnD 2 1 b_Poly_scaled
noncomputable abbrev b_monic_0 : FS :=
  sRetV 0
noncomputable abbrev b_monic_1 : FS :=
  sRet (eMe (tbl [(21, mfn 2 (fun ds => ds) f_Poly_scaled)]) (eVar 0) (aCons (eMe (tbl [(20, mfn 2 (fun ds => ds) f_Fraction_over)]) (eCa 1 (fun ds => m_Fraction ((fun ds => ds ++ [(.int 1)]) ds)) (aCons (eC (.int 1)) aNil)) (aCons (e1 (gAtt (tbl []) (tbl [(21, f_Poly_lead)])) (eVar 0)) aNil)) aNil))
noncomputable abbrev b_monic_2 : FS :=
  sSeq (sIf (tTru (e1 (gAtt (tbl []) (tbl [(21, f_Poly_is_zero)])) (eVar 0)))
  b_monic_0
  sNext)
  b_monic_1
noncomputable abbrev b_monic : FS := b_monic_2
noncomputable def f_monic : Fn := fnD 1 0 b_monic
noncomputable abbrev b_common_divisor_0 : FS :=
  sSet 3 (eCa 1 f_primitive (aCons (eVar 4) aNil))
noncomputable abbrev b_common_divisor_1 : FS :=
  sSeq (sSet 2 (eVar 3))
  b_common_divisor_0
noncomputable abbrev b_common_divisor_2 : FS :=
  sSeq (sSet 4 (e2 gIx (eCa 2 f_divide (aCons (eVar 2) (aCons (eVar 3) aNil))) (eC (.int 1))))
  b_common_divisor_1
noncomputable abbrev b_common_divisor_3 : FS :=
  sRet (eCa 1 f_monic (aCons (eVar 2) aNil))
noncomputable abbrev b_common_divisor_4 : FS :=
  sSeq (sWhile (tNot (tTru (e1 (gAtt (tbl []) (tbl [(21, f_Poly_is_zero)])) (eVar 3))))
  b_common_divisor_2)
  b_common_divisor_3
noncomputable abbrev b_common_divisor_5 : FS :=
  sSeq (sSet 3 (eCa 1 f_primitive (aCons (eVar 1) aNil)))
  b_common_divisor_4
noncomputable abbrev b_common_divisor_6 : FS :=
  sSeq (sSet 2 (eCa 1 f_primitive (aCons (eVar 0) aNil)))
  b_common_divisor_5
noncomputable abbrev b_common_divisor : FS := b_common_divisor_6
noncomputable def f_common_divisor : Fn := fnD 2 3 b_common_divisor
noncomputable abbrev b_law_is_integer_0 : FS :=
  sRet (eAnd (e1 (gIsi (ansB "int" [])) (eVar 0)) (eNot (e1 (gIsi (ansB "bool" [])) (eVar 0))))
noncomputable abbrev b_law_is_integer : FS := b_law_is_integer_0
noncomputable def f_law_is_integer : Fn := fnD 1 0 b_law_is_integer
noncomputable abbrev b_law_divisor_0 : FS :=
  sSet 1 (eVar 2)
noncomputable abbrev b_law_divisor_1 : FS :=
  sSeq (sSet 0 (eVar 1))
  b_law_divisor_0
noncomputable abbrev b_law_divisor_2 : FS :=
  sSeq (sSet 2 (e2 gMod (e1 gInt (eVar 0)) (eVar 1)))
  b_law_divisor_1
noncomputable abbrev b_law_divisor_3 : FS :=
  sRetV 0
noncomputable abbrev b_law_divisor_4 : FS :=
  sSeq (sWhile (tB (e2 gGt (eVar 1) (eC (.int 0))))
  b_law_divisor_2)
  b_law_divisor_3
noncomputable abbrev b_law_divisor_5 : FS :=
  sSeq (sSet 1 (e1 gAbs (eVar 1)))
  b_law_divisor_4
noncomputable abbrev b_law_divisor_6 : FS :=
  sSeq (sSet 0 (e1 gAbs (eVar 0)))
  b_law_divisor_5
noncomputable abbrev b_law_divisor : FS := b_law_divisor_6
noncomputable def f_law_divisor : Fn := fnD 2 1 b_law_divisor
noncomputable abbrev b_law_poly_is_0 : FS :=
  sRet (eC (.bl false))
noncomputable abbrev b_law_poly_is_1 : FS :=
  sRet (eC (.bl false))
noncomputable abbrev b_law_poly_is_2 : FS :=
  sSet 3 (eCa 2 f_law_divisor (aCons (eVar 3) (aCons (eVar 4) aNil)))
noncomputable abbrev b_law_poly_is_3 : FS :=
  sSeq (sIf (tNot (tTru (eCa 1 f_law_is_integer (aCons (eVar 4) aNil))))
  b_law_poly_is_1
  sNext)
  b_law_poly_is_2
noncomputable abbrev b_law_poly_is_4 : FS :=
  sRet (eC (.bl false))
noncomputable abbrev b_law_poly_is_5 : FS :=
  sRet (eC (.bl false))
noncomputable abbrev b_law_poly_is_6 : FS :=
  sIf (tB (e2 gNeS (e2 gMul (e2 gIx (eVar 6) (eVar 7)) (eVar 2)) (e2 gMul (e2 gIx (eVar 8) (eVar 7)) (e1 (gFld (tbl [(21, 1)])) (eVar 0)))))
  b_law_poly_is_5
  sNext
noncomputable abbrev b_law_poly_is_7 : FS :=
  sRet (eC (.bl true))
noncomputable abbrev b_law_poly_is_8 : FS :=
  sSeq (sFor (iRng1 (eVar 5)) (gtName 7)
  b_law_poly_is_6)
  b_law_poly_is_7
noncomputable abbrev b_law_poly_is_9 : FS :=
  sSeq (sSet 8 (e2 gCat (e1 gList (eVar 1)) (eLc [7] (iRng1 (e2 gSub (eVar 5) (e1 gLen (eVar 1)))) (gtName 7) tTrue (eC (.int 0)))))
  b_law_poly_is_8
noncomputable abbrev b_law_poly_is_10 : FS :=
  sSeq (sSet 6 (e2 gCat (e1 gList (e1 (gFld (tbl [(21, 0)])) (eVar 0))) (eLc [7] (iRng1 (e2 gSub (eVar 5) (e1 gLen (e1 (gFld (tbl [(21, 0)])) (eVar 0))))) (gtName 7) tTrue (eC (.int 0)))))
  b_law_poly_is_9
noncomputable abbrev b_law_poly_is_11 : FS :=
  sSeq (sSet 5 (e2 gMax (e1 gLen (e1 (gFld (tbl [(21, 0)])) (eVar 0))) (e1 gLen (eVar 1))))
  b_law_poly_is_10
noncomputable abbrev b_law_poly_is_12 : FS :=
  sSeq (sIf (tOr (tB (e2 gNeS (eVar 3) (eC (.int 1)))) (tAnd (tB (e2 gGt (e1 gLen (e1 (gFld (tbl [(21, 0)])) (eVar 0))) (eC (.int 0)))) (tB (e2 gEqS (e2 gIx (e1 (gFld (tbl [(21, 0)])) (eVar 0)) (e1 gNeg (eC (.int 1)))) (eC (.int 0))))))
  b_law_poly_is_4
  sNext)
  b_law_poly_is_11
noncomputable abbrev b_law_poly_is_13 : FS :=
  sSeq (sFor (iSeq (e1 (gFld (tbl [(21, 0)])) (eVar 0))) (gtName 4)
  b_law_poly_is_3)
  b_law_poly_is_12
noncomputable abbrev b_law_poly_is_14 : FS :=
  sSeq (sSet 3 (e1 (gFld (tbl [(21, 1)])) (eVar 0)))
  b_law_poly_is_13
noncomputable abbrev b_law_poly_is_15 : FS :=
  sSeq (sIf (tOr (tNot (tTru (e1 (gIsi (ansC [] [(21, true)])) (eVar 0)))) (tOr (tNot (tTru (e1 (gIsi (ansB "tuple" [])) (e1 (gFld (tbl [(21, 0)])) (eVar 0))))) (tOr (tNot (tTru (eCa 1 f_law_is_integer (aCons (e1 (gFld (tbl [(21, 1)])) (eVar 0)) aNil)))) (tB (e2 gLt (e1 (gFld (tbl [(21, 1)])) (eVar 0)) (eC (.int 1)))))))
  b_law_poly_is_0
  sNext)
  b_law_poly_is_14
noncomputable abbrev b_law_poly_is : FS := b_law_poly_is_15
noncomputable def f_law_poly_is : Fn := fnD 3 6 b_law_poly_is
noncomputable abbrev b_law_trimmed_0 : FS :=
  sSet 1 (e2 gSub (eVar 1) (eC (.int 1)))
noncomputable abbrev b_law_trimmed_1 : FS :=
  sRet (eSl (eVar 0) oNone (oSome (eVar 1)))
noncomputable abbrev b_law_trimmed_2 : FS :=
  sSeq (sWhile (tAnd (tB (e2 gGt (eVar 1) (eC (.int 0)))) (tB (e2 gEqS (e2 gIx (eVar 0) (e2 gSub (eVar 1) (eC (.int 1)))) (eC (.int 0)))))
  b_law_trimmed_0)
  b_law_trimmed_1
noncomputable abbrev b_law_trimmed_3 : FS :=
  sSeq (sSet 1 (e1 gLen (eVar 0)))
  b_law_trimmed_2
noncomputable abbrev b_law_trimmed : FS := b_law_trimmed_3
noncomputable def f_law_trimmed : Fn := fnD 1 1 b_law_trimmed
noncomputable abbrev b_law_reduced_0 : FS :=
  sSet 1 (eCa 2 f_law_divisor (aCons (eVar 1) (aCons (eVar 2) aNil)))
noncomputable abbrev b_law_reduced_1 : FS :=
  sRet (eLst aNil)
noncomputable abbrev b_law_reduced_2 : FS :=
  sRet (eLc [2] (iSeq (eVar 0)) (gtName 2) tTrue (e2 gDiv (eVar 2) (eVar 1)))
noncomputable abbrev b_law_reduced_3 : FS :=
  sSeq (sIf (tB (e2 gEqS (eVar 1) (eC (.int 0))))
  b_law_reduced_1
  sNext)
  b_law_reduced_2
noncomputable abbrev b_law_reduced_4 : FS :=
  sSeq (sFor (iSeq (eVar 0)) (gtName 2)
  b_law_reduced_0)
  b_law_reduced_3
noncomputable abbrev b_law_reduced_5 : FS :=
  sSeq (sSet 1 (eC (.int 0)))
  b_law_reduced_4
noncomputable abbrev b_law_reduced : FS := b_law_reduced_5
noncomputable def f_law_reduced : Fn := fnD 1 2 b_law_reduced
noncomputable abbrev b_law_rest_0 : FS :=
  sSetIx 2 (e2 gAdd (eVar 5) (eVar 6)) (e2 gSub (e2 gIx (eVar 2) (e2 gAdd (eVar 5) (eVar 6))) (e2 gMul (eVar 4) (e2 gIx (eVar 1) (eVar 6))))
noncomputable abbrev b_law_rest_1 : FS :=
  sSet 2 (eSl (eVar 2) oNone (oSome (e1 gNeg (eC (.int 1)))))
noncomputable abbrev b_law_rest_2 : FS :=
  sSeq (sFor (iRng1 (e1 gLen (eVar 1))) (gtName 6)
  b_law_rest_0)
  b_law_rest_1
noncomputable abbrev b_law_rest_3 : FS :=
  sSeq (sFrz 2 (sSet 2 (eLc [7] (iSeq (eVar 2)) (gtName 7) tTrue (e2 gMul (e2 gIx (eVar 1) (e1 gNeg (eC (.int 1)))) (eVar 7)))))
  b_law_rest_2
noncomputable abbrev b_law_rest_4 : FS :=
  sSeq (sSet 5 (e2 gSub (e1 gLen (eVar 2)) (e1 gLen (eVar 1))))
  b_law_rest_3
noncomputable abbrev b_law_rest_5 : FS :=
  sSeq (sSet 4 (e2 gIx (eVar 2) (e1 gNeg (eC (.int 1)))))
  b_law_rest_4
noncomputable abbrev b_law_rest_6 : FS :=
  sIf (tB (e2 gGe (e1 gLen (eVar 2)) (e1 gLen (eVar 1))))
  b_law_rest_5
  sNext
noncomputable abbrev b_law_rest_7 : FS :=
  sFrz 2 (sRet (eCa 1 f_law_trimmed (aCons (eVar 2) aNil)))
noncomputable abbrev b_law_rest_8 : FS :=
  sSeq (sFor (iRng1 (e1 gLen (eVar 0))) (gtName 3)
  b_law_rest_6)
  b_law_rest_7
noncomputable abbrev b_law_rest_9 : FS :=
  sSeq (sSet 2 (e1 gList (eVar 0)))
  b_law_rest_8
noncomputable abbrev b_law_rest : FS := b_law_rest_9
noncomputable def f_law_rest : Fn := fnD 2 6 b_law_rest
noncomputable abbrev b_law_degree_0 : FS :=
  sFrz 5 (sSet 3 (eVar 5))
noncomputable abbrev b_law_degree_1 : FS :=
  sSeq (sFrz 3 (sSet 2 (eVar 3)))
  b_law_degree_0
noncomputable abbrev b_law_degree_2 : FS :=
  sSeq (sFrz 3 (sFrz 2 (sSet 5 (eCa 1 f_law_reduced (aCons (eCa 2 f_law_rest (aCons (eVar 2) (aCons (eVar 3) aNil))) aNil)))))
  b_law_degree_1
noncomputable abbrev b_law_degree_3 : FS :=
  sIf (tB (e2 gGt (e1 gLen (eVar 3)) (eC (.int 0))))
  b_law_degree_2
  sNext
noncomputable abbrev b_law_degree_4 : FS :=
  sRet (e2 gSub (e1 gLen (eVar 2)) (eC (.int 1)))
noncomputable abbrev b_law_degree_5 : FS :=
  sSeq (sFor (iRng1 (e2 gAdd (e2 gAdd (e1 gLen (eVar 0)) (e1 gLen (eVar 1))) (eC (.int 2)))) (gtName 4)
  b_law_degree_3)
  b_law_degree_4
noncomputable abbrev b_law_degree_6 : FS :=
  sSeq (sSet 3 (eCa 1 f_law_reduced (aCons (eCa 1 f_law_trimmed (aCons (eVar 1) aNil)) aNil)))
  b_law_degree_5
noncomputable abbrev b_law_degree_7 : FS :=
  sSeq (sSet 2 (eCa 1 f_law_reduced (aCons (eCa 1 f_law_trimmed (aCons (eVar 0) aNil)) aNil)))
  b_law_degree_6
noncomputable abbrev b_law_degree : FS := b_law_degree_7
noncomputable def f_law_degree : Fn := fnD 2 4 b_law_degree
noncomputable abbrev b_law_is_divisor_0 : FS :=
  sRet (eC (.bl false))
noncomputable abbrev b_law_is_divisor_1 : FS :=
  sRet (eC (.bl false))
noncomputable abbrev b_law_is_divisor_2 : FS :=
  sRet (eC (.bl true))
noncomputable abbrev b_law_is_divisor_3 : FS :=
  sRet (eC (.bl false))
noncomputable abbrev b_law_is_divisor_4 : FS :=
  sRet (eBor 4 (eAnd (e2 gEqS (e1 gLen (eCa 2 f_law_rest (aCons (eCa 1 f_law_trimmed (aCons (eVar 1) aNil)) (aCons (eVar 4) aNil)))) (eC (.int 0))) (e2 gEqS (e1 gLen (eCa 2 f_law_rest (aCons (eCa 1 f_law_trimmed (aCons (eVar 2) aNil)) (aCons (eVar 4) aNil)))) (eC (.int 0)))))
noncomputable abbrev b_law_is_divisor_5 : FS :=
  sSeq (sSet 4 (e1 gList (e1 (gFld (tbl [(21, 0)])) (eVar 0))))
  b_law_is_divisor_4
noncomputable abbrev b_law_is_divisor_6 : FS :=
  sSeq (sIf (tB (e2 gNeS (e2 gIx (e1 (gFld (tbl [(21, 0)])) (eVar 0)) (e1 gNeg (eC (.int 1)))) (e1 (gFld (tbl [(21, 1)])) (eVar 0))))
  b_law_is_divisor_3
  sNext)
  b_law_is_divisor_5
noncomputable abbrev b_law_is_divisor_7 : FS :=
  sSeq (sIf (tB (e2 gLt (eVar 3) (eC (.int 0))))
  b_law_is_divisor_2
  sNext)
  b_law_is_divisor_6
noncomputable abbrev b_law_is_divisor_8 : FS :=
  sSeq (sIf (tB (e2 gNeS (e1 gLen (e1 (gFld (tbl [(21, 0)])) (eVar 0))) (e2 gAdd (eVar 3) (eC (.int 1)))))
  b_law_is_divisor_1
  sNext)
  b_law_is_divisor_7
noncomputable abbrev b_law_is_divisor_9 : FS :=
  sSeq (sSet 3 (eCa 2 f_law_degree (aCons (eVar 1) (aCons (eVar 2) aNil))))
  b_law_is_divisor_8
noncomputable abbrev b_law_is_divisor_10 : FS :=
  sSeq (sIf (tOr (tNot (tTru (e1 (gIsi (ansC [] [(21, true)])) (eVar 0)))) (tNot (tTru (eCa 3 f_law_poly_is (aCons (eVar 0) (aCons (e1 gList (e1 (gFld (tbl [(21, 0)])) (eVar 0))) (aCons (e1 (gFld (tbl [(21, 1)])) (eVar 0)) aNil)))))))
  b_law_is_divisor_0
  sNext)
  b_law_is_divisor_9
noncomputable abbrev b_law_is_divisor : FS := b_law_is_divisor_10
noncomputable def f_law_is_divisor : Fn := fnD 3 2 b_law_is_divisor
noncomputable abbrev b_common_divisor_of_0 : FS :=
  sSet 1 (eCa 2 f_common_divisor (aCons (eVar 1) (aCons (eVar 2) aNil)))
noncomputable abbrev b_common_divisor_of_1 : FS :=
  sRetV 1
noncomputable abbrev b_common_divisor_of_2 : FS :=
  sSeq (sFor (iSeq (eVar 0)) (gtName 2)
  b_common_divisor_of_0)
  b_common_divisor_of_1
noncomputable abbrev b_common_divisor_of_3 : FS :=
  sSeq (sSet 1 (eCa 1 (fun ds => m_Poly ((fun ds => ds ++ [(.int 1)]) ds)) (aCons (eLst aNil) aNil)))
  b_common_divisor_of_2
noncomputable abbrev b_common_divisor_of : FS := b_common_divisor_of_3
noncomputable def f_common_divisor_of : Fn := fnD 1 2 b_common_divisor_of
noncomputable abbrev b_Poly_eq_0 : FS :=
  sRet (eAnd (e1 (gIsi (ansC [] [(21, true)])) (eVar 1)) (eAnd (e2 gEqD (e1 (gFld (tbl [(21, 0)])) (eVar 0)) (e1 (gFld (tbl [(21, 0)])) (eVar 1))) (e2 gEqS (e1 (gFld (tbl [(21, 1)])) (eVar 0)) (e1 (gFld (tbl [(21, 1)])) (eVar 1)))))
noncomputable abbrev b_Poly_eq : FS := b_Poly_eq_0
noncomputable def f_Poly_eq : Fn := fnD 2 0 b_Poly_eq
noncomputable abbrev b_law_0 : FS :=
  sSet 5 (eLst aNil)
noncomputable abbrev b_law_1 : FS :=
  sSet 6 (eLst aNil)
noncomputable abbrev b_law_2 : FS :=
  sRet (eC (.bl false))
noncomputable abbrev b_law_3 : FS :=
  sRet (eC (.bl false))
noncomputable abbrev b_law_4 : FS :=
  sRet (eC (.bl false))
noncomputable abbrev b_law_5 : FS :=
  sRet (eC (.bl false))
noncomputable abbrev b_law_6 : FS :=
  sSet 13 (eBor 5 (e2 gIx (eCa 1 f_law_trimmed (aCons (eVar 5) aNil)) (e1 gNeg (eC (.int 1)))))
noncomputable abbrev b_law_7 : FS :=
  sRet (eC (.bl false))
noncomputable abbrev b_law_8 : FS :=
  sRet (eBor 6 (eBor 5 (eAnd (eCa 3 f_law_poly_is (aCons (eVar 9) (aCons (eVar 5) (aCons (eVar 7) aNil)))) (eCa 3 f_law_poly_is (aCons (eVar 10) (aCons (eVar 6) (aCons (eVar 8) aNil)))))))
noncomputable abbrev b_law_9 : FS :=
  sSeq (sIf (tBor 5 (tNot (tTru (eCa 3 f_law_poly_is (aCons (eCa 1 f_monic (aCons (eVar 9) aNil)) (aCons (eVar 5) (aCons (eVar 13) aNil)))))))
  b_law_7
  sNext)
  b_law_8
noncomputable abbrev b_law_10 : FS :=
  sSeq (sIf (tBor 5 (tB (e2 gGt (e1 gLen (eCa 1 f_law_trimmed (aCons (eVar 5) aNil))) (eC (.int 0)))))
  b_law_6
  sNext)
  b_law_9
noncomputable abbrev b_law_11 : FS :=
  sSeq (sSet 13 (eC (.int 1)))
  b_law_10
noncomputable abbrev b_law_12 : FS :=
  sSeq (sIf (tBor 6 (tBor 5 (tOr (tNot (tTru (eCa 3 f_law_is_divisor (aCons (eVar 12) (aCons (eVar 5) (aCons (eVar 6) aNil)))))) (tB (e2 (gNeI (tbl [(21, mfn 2 (fun ds => ds) f_Poly_eq)])) (eVar 11) (eLst (aCons (eCa 1 (fun ds => m_Poly ((fun ds => ds ++ [(.int 1)]) ds)) (aCons (eLst aNil) aNil)) (aCons (eVar 9) (aCons (eVar 10) (aCons (eVar 9) aNil))))))))))
  b_law_5
  sNext)
  b_law_11
noncomputable abbrev b_law_13 : FS :=
  sSeq (sSet 12 (eBor 11 (eCa 1 f_common_divisor_of (aCons (eVar 11) aNil))))
  b_law_12
noncomputable abbrev b_law_14 : FS :=
  sSeq (sSet 11 (eLst (aCons (eCa 1 (fun ds => m_Poly ((fun ds => ds ++ [(.int 1)]) ds)) (aCons (eLst aNil) aNil)) (aCons (eVar 9) (aCons (eVar 10) (aCons (eVar 9) aNil))))))
  b_law_13
noncomputable abbrev b_law_15 : FS :=
  sSeq (sIf (tBor 5 (tOr (tNot (tTru (eCa 3 f_law_is_divisor (aCons (eCa 1 f_common_divisor_of (aCons (eLst (aCons (eVar 9) aNil)) aNil)) (aCons (eVar 5) (aCons (eLst aNil) aNil)))))) (tNot (tTru (eCa 3 f_law_is_divisor (aCons (eCa 1 f_common_divisor_of (aCons (eLst aNil) aNil)) (aCons (eLst aNil) (aCons (eLst aNil) aNil))))))))
  b_law_4
  sNext)
  b_law_14
noncomputable abbrev b_law_16 : FS :=
  sSeq (sIf (tBor 6 (tBor 5 (tNot (tTru (eCa 3 f_law_is_divisor (aCons (eCa 1 f_common_divisor_of (aCons (eLst (aCons (eVar 10) (aCons (eVar 9) aNil))) aNil)) (aCons (eVar 5) (aCons (eVar 6) aNil))))))))
  b_law_3
  sNext)
  b_law_15
noncomputable abbrev b_law_17 : FS :=
  sSeq (sIf (tBor 6 (tBor 5 (tNot (tTru (eCa 3 f_law_is_divisor (aCons (eCa 2 f_common_divisor (aCons (eVar 9) (aCons (eVar 10) aNil))) (aCons (eVar 5) (aCons (eVar 6) aNil))))))))
  b_law_2
  sNext)
  b_law_16
noncomputable abbrev b_law_18 : FS :=
  sSeq (sSet 10 (eBor 6 (eCa 2 m_Poly (aCons (eVar 6) (aCons (eVar 8) aNil)))))
  b_law_17
noncomputable abbrev b_law_19 : FS :=
  sSeq (sSet 9 (eBor 5 (eCa 2 m_Poly (aCons (eVar 5) (aCons (eVar 7) aNil)))))
  b_law_18
noncomputable abbrev b_law_20 : FS :=
  sSeq (sSet 8 (e2 gAdd (e2 gMod (e2 gDiv (e2 gIx (eVar 1) (eC (.int 4))) (eC (.int 5))) (eC (.int 5))) (eC (.int 1))))
  b_law_19
noncomputable abbrev b_law_21 : FS :=
  sSeq (sSet 7 (e2 gAdd (e2 gMod (e2 gIx (eVar 1) (eC (.int 4))) (eC (.int 5))) (eC (.int 1))))
  b_law_20
noncomputable abbrev b_law_22 : FS :=
  sSeq (sIf (tOr (tB (e2 gEqS (e2 gMod (e2 gIx (eVar 1) (eC (.int 3))) (eC (.int 8))) (eC (.int 2)))) (tB (e2 gEqS (e2 gMod (e2 gIx (eVar 1) (eC (.int 3))) (eC (.int 8))) (eC (.int 3)))))
  b_law_1
  sNext)
  b_law_21
noncomputable abbrev b_law_23 : FS :=
  sSeq (sIf (tOr (tB (e2 gEqS (e2 gMod (e2 gIx (eVar 1) (eC (.int 3))) (eC (.int 8))) (eC (.int 1)))) (tB (e2 gEqS (e2 gMod (e2 gIx (eVar 1) (eC (.int 3))) (eC (.int 8))) (eC (.int 3)))))
  b_law_0
  sNext)
  b_law_22
noncomputable abbrev b_law_24 : FS :=
  sSeq (sFrz 4 (sFrz 2 (sSet 6 (eCa 2 f_law_product (aCons (eVar 2) (aCons (eVar 4) aNil))))))
  b_law_23
noncomputable abbrev b_law_25 : FS :=
  sSeq (sFrz 3 (sFrz 2 (sSet 5 (eCa 2 f_law_product (aCons (eVar 2) (aCons (eVar 3) aNil))))))
  b_law_24
noncomputable abbrev b_law_26 : FS :=
  sSeq (sFrz 1 (sSet 4 (eCa 3 f_law_coefs (aCons (eVar 1) (aCons (eC (.int 11)) (aCons (e2 gMod (e2 gIx (eVar 1) (eC (.int 2))) (eC (.int 4))) aNil))))))
  b_law_25
noncomputable abbrev b_law_27 : FS :=
  sSeq (sFrz 1 (sSet 3 (eCa 3 f_law_coefs (aCons (eVar 1) (aCons (eC (.int 8)) (aCons (e2 gMod (e2 gIx (eVar 1) (eC (.int 1))) (eC (.int 4))) aNil))))))
  b_law_26
noncomputable abbrev b_law_28 : FS :=
  sSeq (sFrz 1 (sSet 2 (eCa 3 f_law_coefs (aCons (eVar 1) (aCons (eC (.int 5)) (aCons (e2 gMod (e2 gIx (eVar 1) (eC (.int 0))) (eC (.int 4))) aNil))))))
  b_law_27
noncomputable abbrev b_law_29 : FS :=
  sSeq (sSet 1 (eCa 2 f_law_numbers (aCons (eVar 0) (aCons (eC (.int 14)) aNil))))
  b_law_28
noncomputable abbrev b_law : FS := b_law_29
noncomputable def f_law : Fn := fnD 1 13 b_law
theorem sc_law_numbers : FnScope ["_law_script", "_law_count", "_law_rest_here", "_law_by_digits", "_law_numbers_here", "_law_k", "_law_cell"] ["_law_script", "_law_count"] (defScope s_law_numbers) := ⟨rfl, rfl, rfl, by decide +kernel, rfl, by decide +kernel, by decide +kernel⟩
theorem sc_law_coefs : FnScope ["_law_numbers_here", "_law_start", "_law_size", "_law_coefs_here", "_law_k", "_law_number"] ["_law_numbers_here", "_law_start", "_law_size"] (defScope s_law_coefs) := ⟨rfl, rfl, rfl, by decide +kernel, rfl, by decide +kernel, by decide +kernel⟩
theorem sc_law_product : FnScope ["_law_a", "_law_b", "_law_result", "_law_k", "_law_i", "_law_j"] ["_law_a", "_law_b"] (defScope s_law_product) := ⟨rfl, rfl, rfl, by decide +kernel, rfl, by decide +kernel, by decide +kernel⟩
theorem sc_trimmed : FnScope ["numbers", "size"] ["numbers"] (defScope s_trimmed) := ⟨rfl, rfl, rfl, by decide +kernel, rfl, by decide +kernel, by decide +kernel⟩
theorem sc_content : FnScope ["numbers", "divisor", "number"] ["numbers"] (defScope s_content) := ⟨rfl, rfl, rfl, by decide +kernel, rfl, by decide +kernel, by decide +kernel⟩
theorem sc_Poly_init : FnScope ["self", "coefs", "den", "numbers", "divisor", "number"] ["self", "coefs", "den"] (defScope s_Poly_init) := ⟨rfl, rfl, rfl, by decide +kernel, rfl, by decide +kernel, by decide +kernel⟩
theorem sc_Poly_is_zero : FnScope ["self"] ["self"] (defScope s_Poly_is_zero) := ⟨rfl, rfl, rfl, by decide +kernel, rfl, by decide +kernel, by decide +kernel⟩
theorem sc_primitive : FnScope ["p"] ["p"] (defScope s_primitive) := ⟨rfl, rfl, rfl, by decide +kernel, rfl, by decide +kernel, by decide +kernel⟩
theorem sc_divide : FnScope ["p", "q", "size", "lead", "rest", "quotient", "_", "scale", "place", "top", "i", "number", "den"] ["p", "q"] (defScope s_divide) := ⟨rfl, rfl, rfl, by decide +kernel, rfl, by decide +kernel, by decide +kernel⟩
theorem sc_Fraction_init : FnScope ["self", "num", "den", "divisor"] ["self", "num", "den"] (defScope s_Fraction_init) := ⟨rfl, rfl, rfl, by decide +kernel, rfl, by decide +kernel, by decide +kernel⟩
theorem sc_Poly_lead : FnScope ["self"] ["self"] (defScope s_Poly_lead) := ⟨rfl, rfl, rfl, by decide +kernel, rfl, by decide +kernel, by decide +kernel⟩
theorem sc_Fraction_over : FnScope ["self", "other"] ["self", "other"] (defScope s_Fraction_over) := ⟨rfl, rfl, rfl, by decide +kernel, rfl, by decide +kernel, by decide +kernel⟩
theorem sc_Poly_scaled : FnScope ["self", "factor", "number"] ["self", "factor"] (defScope s_Poly_scaled) := ⟨rfl, rfl, rfl, by decide +kernel, rfl, by decide +kernel, by decide +kernel⟩
theorem sc_monic : FnScope ["p"] ["p"] (defScope s_monic) := ⟨rfl, rfl, rfl, by decide +kernel, rfl, by decide +kernel, by decide +kernel⟩
theorem sc_common_divisor : FnScope ["p", "q", "first", "second", "rest"] ["p", "q"] (defScope s_common_divisor) := ⟨rfl, rfl, rfl, by decide +kernel, rfl, by decide +kernel, by decide +kernel⟩
theorem sc_law_is_integer : FnScope ["_law_x"] ["_law_x"] (defScope s_law_is_integer) := ⟨rfl, rfl, rfl, by decide +kernel, rfl, by decide +kernel, by decide +kernel⟩
theorem sc_law_divisor : FnScope ["_law_a", "_law_b", "_law_rest_here"] ["_law_a", "_law_b"] (defScope s_law_divisor) := ⟨rfl, rfl, rfl, by decide +kernel, rfl, by decide +kernel, by decide +kernel⟩
theorem sc_law_poly_is : FnScope ["_law_p", "_law_coefs_here", "_law_den", "_law_shared", "_law_number", "_law_size", "_law_mine", "_law_k", "_law_due"] ["_law_p", "_law_coefs_here", "_law_den"] (defScope s_law_poly_is) := ⟨rfl, rfl, rfl, by decide +kernel, rfl, by decide +kernel, by decide +kernel⟩
theorem sc_law_trimmed : FnScope ["_law_coefs_here", "_law_size"] ["_law_coefs_here"] (defScope s_law_trimmed) := ⟨rfl, rfl, rfl, by decide +kernel, rfl, by decide +kernel, by decide +kernel⟩
theorem sc_law_reduced : FnScope ["_law_p", "_law_shared", "_law_number"] ["_law_p"] (defScope s_law_reduced) := ⟨rfl, rfl, rfl, by decide +kernel, rfl, by decide +kernel, by decide +kernel⟩
theorem sc_law_rest : FnScope ["_law_p", "_law_q", "_law_rest_here", "_law_k", "_law_top", "_law_place", "_law_i", "_law_number"] ["_law_p", "_law_q"] (defScope s_law_rest) := ⟨rfl, rfl, rfl, by decide +kernel, rfl, by decide +kernel, by decide +kernel⟩
theorem sc_law_degree : FnScope ["_law_p", "_law_q", "_law_first", "_law_second", "_law_k", "_law_rest_here"] ["_law_p", "_law_q"] (defScope s_law_degree) := ⟨rfl, rfl, rfl, by decide +kernel, rfl, by decide +kernel, by decide +kernel⟩
theorem sc_law_is_divisor : FnScope ["_law_d", "_law_p", "_law_q", "_law_degree_here", "_law_whole"] ["_law_d", "_law_p", "_law_q"] (defScope s_law_is_divisor) := ⟨rfl, rfl, rfl, by decide +kernel, rfl, by decide +kernel, by decide +kernel⟩
theorem sc_common_divisor_of : FnScope ["polys", "result", "p"] ["polys"] (defScope s_common_divisor_of) := ⟨rfl, rfl, rfl, by decide +kernel, rfl, by decide +kernel, by decide +kernel⟩
theorem sc_Poly_eq : FnScope ["self", "other"] ["self", "other"] (defScope s_Poly_eq) := ⟨rfl, rfl, rfl, by decide +kernel, rfl, by decide +kernel, by decide +kernel⟩
theorem sc_law : FnScope ["_law_script", "_law_numbers_here", "_law_g", "_law_a", "_law_b", "_law_p", "_law_q", "_law_d", "_law_e", "_law_first", "_law_second", "_law_row", "_law_both", "_law_lead"] ["_law_script"] (defScope s_law) := ⟨rfl, rfl, rfl, by decide +kernel, rfl, by decide +kernel, by decide +kernel⟩
def h_law_numbers : DefP := ⟨atG "_law_numbers", "_law_numbers", "_law_numbers", defArgs s_law_numbers, defBody s_law_numbers, defScope s_law_numbers, []⟩
def h_law_coefs : DefP := ⟨atG "_law_coefs", "_law_coefs", "_law_coefs", defArgs s_law_coefs, defBody s_law_coefs, defScope s_law_coefs, []⟩
def h_law_product : DefP := ⟨atG "_law_product", "_law_product", "_law_product", defArgs s_law_product, defBody s_law_product, defScope s_law_product, []⟩
def h_trimmed : DefP := ⟨atG "trimmed", "trimmed", "trimmed", defArgs s_trimmed, defBody s_trimmed, defScope s_trimmed, []⟩
def h_content : DefP := ⟨atG "content", "content", "content", defArgs s_content, defBody s_content, defScope s_content, []⟩
def h_Poly_init : DefP := ⟨atM "Poly" "__init__", "__init__", "Poly.__init__", defArgs s_Poly_init, defBody s_Poly_init, defScope s_Poly_init, [(.int 1)]⟩
def h_Poly_is_zero : DefP := ⟨behind "property" "Poly" "is_zero", "is_zero", "Poly.is_zero", defArgs s_Poly_is_zero, defBody s_Poly_is_zero, defScope s_Poly_is_zero, []⟩
def h_primitive : DefP := ⟨atG "primitive", "primitive", "primitive", defArgs s_primitive, defBody s_primitive, defScope s_primitive, []⟩
def h_divide : DefP := ⟨atG "divide", "divide", "divide", defArgs s_divide, defBody s_divide, defScope s_divide, []⟩
def h_Fraction_init : DefP := ⟨atM "Fraction" "__init__", "__init__", "Fraction.__init__", defArgs s_Fraction_init, defBody s_Fraction_init, defScope s_Fraction_init, [(.int 1)]⟩
def h_Poly_lead : DefP := ⟨behind "property" "Poly" "lead", "lead", "Poly.lead", defArgs s_Poly_lead, defBody s_Poly_lead, defScope s_Poly_lead, []⟩
def h_Fraction_over : DefP := ⟨atM "Fraction" "over", "over", "Fraction.over", defArgs s_Fraction_over, defBody s_Fraction_over, defScope s_Fraction_over, []⟩
def h_Poly_scaled : DefP := ⟨atM "Poly" "scaled", "scaled", "Poly.scaled", defArgs s_Poly_scaled, defBody s_Poly_scaled, defScope s_Poly_scaled, []⟩
def h_monic : DefP := ⟨atG "monic", "monic", "monic", defArgs s_monic, defBody s_monic, defScope s_monic, []⟩
def h_common_divisor : DefP := ⟨atG "common_divisor", "common_divisor", "common_divisor", defArgs s_common_divisor, defBody s_common_divisor, defScope s_common_divisor, []⟩
def h_law_is_integer : DefP := ⟨atG "_law_is_integer", "_law_is_integer", "_law_is_integer", defArgs s_law_is_integer, defBody s_law_is_integer, defScope s_law_is_integer, []⟩
def h_law_divisor : DefP := ⟨atG "_law_divisor", "_law_divisor", "_law_divisor", defArgs s_law_divisor, defBody s_law_divisor, defScope s_law_divisor, []⟩
def h_law_poly_is : DefP := ⟨atG "_law_poly_is", "_law_poly_is", "_law_poly_is", defArgs s_law_poly_is, defBody s_law_poly_is, defScope s_law_poly_is, []⟩
def h_law_trimmed : DefP := ⟨atG "_law_trimmed", "_law_trimmed", "_law_trimmed", defArgs s_law_trimmed, defBody s_law_trimmed, defScope s_law_trimmed, []⟩
def h_law_reduced : DefP := ⟨atG "_law_reduced", "_law_reduced", "_law_reduced", defArgs s_law_reduced, defBody s_law_reduced, defScope s_law_reduced, []⟩
def h_law_rest : DefP := ⟨atG "_law_rest", "_law_rest", "_law_rest", defArgs s_law_rest, defBody s_law_rest, defScope s_law_rest, []⟩
def h_law_degree : DefP := ⟨atG "_law_degree", "_law_degree", "_law_degree", defArgs s_law_degree, defBody s_law_degree, defScope s_law_degree, []⟩
def h_law_is_divisor : DefP := ⟨atG "_law_is_divisor", "_law_is_divisor", "_law_is_divisor", defArgs s_law_is_divisor, defBody s_law_is_divisor, defScope s_law_is_divisor, []⟩
def h_common_divisor_of : DefP := ⟨atG "common_divisor_of", "common_divisor_of", "common_divisor_of", defArgs s_common_divisor_of, defBody s_common_divisor_of, defScope s_common_divisor_of, []⟩
def h_Poly_eq : DefP := ⟨atM "Poly" "__eq__", "__eq__", "Poly.__eq__", defArgs s_Poly_eq, defBody s_Poly_eq, defScope s_Poly_eq, []⟩
def h_law : DefP := ⟨atG "law", "law", "law", defArgs s_law, defBody s_law, defScope s_law, []⟩
def fns : List DefP := [h_law_numbers, h_law_coefs, h_law_product, h_trimmed, h_content, h_Poly_init, h_Poly_is_zero, h_primitive, h_divide, h_Fraction_init, h_Poly_lead, h_Fraction_over, h_Poly_scaled, h_monic, h_common_divisor, h_law_is_integer, h_law_divisor, h_law_poly_is, h_law_trimmed, h_law_reduced, h_law_rest, h_law_degree, h_law_is_divisor, h_common_divisor_of, h_Poly_eq, h_law]
def fas : List He.Fa := [.glo "_law_numbers", .glo "_law_coefs", .glo "_law_product", .glo "Poly", .mkr "Poly", .glo "common_divisor", .glo "_law_is_divisor", .glo "common_divisor_of", .meth "Poly" "__eq__", .glo "_law_trimmed", .free "len", .glo "monic", .glo "_law_poly_is", .free "range", .exc "DivisionByZero", .glo "DivisionByZero", .free "list", .glo "trimmed", .glo "content", .free "tuple", .glo "primitive", .glo "divide", .exc "ZeroPolynomial", .glo "ZeroPolynomial", .glo "Fraction", .mkr "Fraction", .meth "Fraction" "over", .meth "Poly" "scaled", .free "isinstance", .glo "_law_degree", .glo "_law_rest", .glo "_law_is_integer", .glo "_law_divisor", .free "max", .free "bool", .free "int", .free "abs", .glo "_law_reduced", .glo "law", .cls "Fraction", .noat "Fraction" "num", .noat "Fraction" "den", .cls "Poly", .noat "Poly" "coefs", .noat "Poly" "den"]
def bls : List (PySem.W.Frag → Bool) := [seerB, bltB "gcd" "math.gcd", propB "Poly" "is_zero", propB "Poly" "lead", kitCC "Poly" "Poly" true, isi0, isiB "Poly"]
abbrev Fx (P : Program) (K : PySem.W.Frag) (mg : Str → Option Value) : Prop := FxP fas fns bls P K mg
section
variable {P : Program} {w : World} {K : PySem.W.Frag} {mg : Str → Option Value} {base : Heap}
theorem cd_Fraction (fx : Fx P K mg) : ClsD K (tab K) 20 := ⟨fx.cls 39, all_cons (fx.noat 40) (all_cons (fx.noat 41) all_nil), (by show (fls 20).Nodup; decide), (by show (fls 20).length < 1000; decide)⟩
theorem cd_Poly (fx : Fx P K mg) : ClsD K (tab K) 21 := ⟨fx.cls 42, all_cons (fx.noat 43) (all_cons (fx.noat 44) all_nil), (by show (fls 21).Nodup; decide), (by show (fls 21).length < 1000; decide)⟩
theorem isi_Poly (fx : Fx P K mg) : IsiC K (tab K) 21 := isiB_ok (C := "Poly") (fx.cls 42) rfl (fx.bool 5) (fx.bool 6)
theorem ok_law_numbers (fx : Fx P K mg) : ∃ fd, FunD K "_law_numbers" "_law_numbers" (defArgs s_law_numbers) (defBody s_law_numbers) (defScope s_law_numbers) (h_law_numbers.dv K) [] ((atG "_law_numbers") K) fd ∧ FnOk P w K mg base (L2.CX P w) 33 ((atG "_law_numbers") K) fd ["_law_script", "_law_count"] (spD K (tab K) f_law_numbers) := by
  obtain ⟨fd, F⟩ := fx.fun_ 0 (d := h_law_numbers)
  exact ⟨fd, F, fnOk_of F sc_law_numbers rfl rfl fun cdv A outer s H E hr tk => pdss_cons (pds_set 2 sc_law_numbers.nd pd_int)
    (pdss_cons (pds_if (pdt_gt (pd_len (fx.free 10) (pd_var 0)) pd_int)
    (pdss_one (pds_set 2 sc_law_numbers.nd (pd_item (pd_var 0) pd_int)))
    pdss_nil)
    (pdss_cons (pds_set 3 sc_law_numbers.nd (pd_ge (pd_var 2) (pd_pow pd_int pd_int)))
    (pdss_cons (pds_set 4 sc_law_numbers.nd (pd_lst pda_nil))
    (pdss_cons (pds_for (vs := [5]) PassesOwn.leaving rfl (pdi_rng1 (fx.free 13) (pd_var 1)) (pg_name sc_law_numbers.nd rfl (by first | exact Or.inl rfl | exact Or.inr rfl) (by first | exact .inl rfl | exact .inr rfl)) (tg_name (by decide))
    (pdss_one (pds_if (pdt_of (pdw_and (pdt_tru (pd_var 3)) (pdw_and1 (pdt_gt (pd_var 2) pd_int))))
    (pdss_cons (pds_app (i := 4) (pd_mod (pd_var 2) pd_int))
    (pdss_one (pds_set 2 sc_law_numbers.nd (pd_div (dv_fn fx.1 (fx.bool 0) sc_law_numbers hr (by decide)) (pd_var 2) pd_int))))
    (pdss_cons (pds_set 6 sc_law_numbers.nd pd_int)
    (pdss_cons (pds_if (pdt_gt (pd_len (fx.free 10) (pd_var 0)) pd_int)
    (pdss_one (pds_set 6 sc_law_numbers.nd (pd_add (pd_item (pd_var 0) (pd_mod (pd_var 5) (pd_len (fx.free 10) (pd_var 0)))) (pd_mul pd_int (pd_var 5)))))
    pdss_nil)
    (pdss_one (pds_app (i := 4) (pd_mod (pd_mod (pd_mul (pd_mod (pd_mul (pd_var 6) pd_int) pd_int) pd_int) pd_int) pd_int))))))))
    (pdss_one (pds_retV 4))))))⟩
theorem dg_law_numbers_2 (fx : Fx P K mg) : DefG P w K mg base (tab K) 33 "_law_numbers" 2 (fun ds => ds) f_law_numbers := by
  obtain ⟨fd, F, O⟩ := ok_law_numbers (P := P) (w := w) (base := base) fx
  exact ⟨_, fd, ["_law_script", "_law_count"], fx.glo 0, F.kp, conv_pos F rfl (fun _ _ _ _ _ _ us hl => match us, hl with | [_, _], _ => rfl), O⟩
theorem ok_law_coefs (fx : Fx P K mg) : ∃ fd, FunD K "_law_coefs" "_law_coefs" (defArgs s_law_coefs) (defBody s_law_coefs) (defScope s_law_coefs) (h_law_coefs.dv K) [] ((atG "_law_coefs") K) fd ∧ FnOk P w K mg base (L2.CX P w) 33 ((atG "_law_coefs") K) fd ["_law_numbers_here", "_law_start", "_law_size"] (spD K (tab K) f_law_coefs) := by
  obtain ⟨fd, F⟩ := fx.fun_ 1 (d := h_law_coefs)
  exact ⟨fd, F, fnOk_of F sc_law_coefs rfl rfl fun cdv A outer s H E hr tk => pdss_cons (pds_set 3 sc_law_coefs.nd (pd_lst pda_nil))
    (pdss_cons (pds_for (vs := [4]) PassesOwn.leaving rfl (pdi_rng1 (fx.free 13) (pd_var 2)) (pg_name sc_law_coefs.nd rfl (by first | exact Or.inl rfl | exact Or.inr rfl) (by first | exact .inl rfl | exact .inr rfl)) (tg_name (by decide))
    (pdss_cons (pds_set 5 sc_law_coefs.nd (pd_item (pd_var 0) (pd_add (pd_var 1) (pd_var 4))))
    (pdss_one (pds_if (pdt_eqS (pd_mod (pd_var 5) pd_int) pd_int)
    (pdss_one (pds_app (i := 3) pd_int))
    (pdss_one (pds_app (i := 3) (pd_sub (pd_mod (pd_div (dv_fn fx.1 (fx.bool 0) sc_law_coefs hr (by decide)) (pd_var 5) pd_int) pd_int) pd_int)))))))
    (pdss_one (pds_retV 3)))⟩
theorem dg_law_coefs_3 (fx : Fx P K mg) : DefG P w K mg base (tab K) 33 "_law_coefs" 3 (fun ds => ds) f_law_coefs := by
  obtain ⟨fd, F, O⟩ := ok_law_coefs (P := P) (w := w) (base := base) fx
  exact ⟨_, fd, ["_law_numbers_here", "_law_start", "_law_size"], fx.glo 1, F.kp, conv_pos F rfl (fun _ _ _ _ _ _ us hl => match us, hl with | [_, _, _], _ => rfl), O⟩
theorem ok_law_product (fx : Fx P K mg) : ∃ fd, FunD K "_law_product" "_law_product" (defArgs s_law_product) (defBody s_law_product) (defScope s_law_product) (h_law_product.dv K) [] ((atG "_law_product") K) fd ∧ FnOk P w K mg base (L2.CX P w) 1 ((atG "_law_product") K) fd ["_law_a", "_law_b"] (spD K (tab K) f_law_product) := by
  obtain ⟨fd, F⟩ := fx.fun_ 2 (d := h_law_product)
  exact ⟨fd, F, fnOk_of F sc_law_product rfl rfl fun cdv A outer s H E hr tk => pdss_cons (pds_setLc (own := [("_law_k", 3)]) rfl sc_law_product.nd rfl rfl (sw_true rfl rfl rfl (by decide +kernel)) (pdi_rng1 (fx.free 13) (pd_add (pd_len (fx.free 10) (pd_var 0)) (pd_len (fx.free 10) (pd_var 1)))) (blkOk_by (by kernel_rfl)) (tg_name (by decide)) (fun s0 H1 C0 cl0 fp0 => pg_name sc_law_product.nd rfl (by first | exact Or.inl rfl | exact Or.inr rfl) (by first | exact .inl rfl | exact .inr rfl)) (fun s0 H1 C0 cl0 fp0 => pdts_nil) (fun s0 H1 C0 cl0 fp0 => pd_int))
    (pdss_cons (pds_for (vs := [4]) PassesOwn.leaving rfl (pdi_rng1 (fx.free 13) (pd_len (fx.free 10) (pd_var 0))) (pg_name sc_law_product.nd rfl (by first | exact Or.inl rfl | exact Or.inr rfl) (by first | exact .inl rfl | exact .inr rfl)) (tg_name (by decide))
    (pdss_one (pds_for (vs := [5]) PassesOwn.leaving rfl (pdi_rng1 (fx.free 13) (pd_len (fx.free 10) (pd_var 1))) (pg_name sc_law_product.nd rfl (by first | exact Or.inl rfl | exact Or.inr rfl) (by first | exact .inl rfl | exact .inr rfl)) (tg_name (by decide))
    (pdss_one (pds_setIx (i := 2) (pd_add (pd_item (pd_var 2) (pd_add (pd_var 4) (pd_var 5))) (pd_mul (pd_item (pd_var 0) (pd_var 4)) (pd_item (pd_var 1) (pd_var 5)))) (pd_add (pd_var 4) (pd_var 5)))))))
    (pdss_one (pds_retV 2)))⟩
theorem dg_law_product_2 (fx : Fx P K mg) : DefG P w K mg base (tab K) 1 "_law_product" 2 (fun ds => ds) f_law_product := by
  obtain ⟨fd, F, O⟩ := ok_law_product (P := P) (w := w) (base := base) fx
  exact ⟨_, fd, ["_law_a", "_law_b"], fx.glo 2, F.kp, conv_pos F rfl (fun _ _ _ _ _ _ us hl => match us, hl with | [_, _], _ => rfl), O⟩
theorem ok_trimmed (fx : Fx P K mg) : ∃ fd, FunD K "trimmed" "trimmed" (defArgs s_trimmed) (defBody s_trimmed) (defScope s_trimmed) (h_trimmed.dv K) [] ((atG "trimmed") K) fd ∧ FnOk P w K mg base (L2.CX P w) 1 ((atG "trimmed") K) fd ["numbers"] (spD K (tab K) f_trimmed) := by
  obtain ⟨fd, F⟩ := fx.fun_ 3 (d := h_trimmed)
  exact ⟨fd, F, fnOk_of F sc_trimmed rfl rfl fun cdv A outer s H E hr tk => pdss_cons (pds_set 1 sc_trimmed.nd (pd_len (fx.free 10) (pd_var 0)))
    (pdss_cons (pds_while PassesOwn.leaving (pdt_of (pdw_and (pdt_gt (pd_var 1) pd_int) (pdw_and1 (pdt_eqS (pd_item (pd_var 0) (pd_sub (pd_var 1) pd_int)) pd_int))))
    (pdss_one (pds_augI ip_sub sc_trimmed.nd pd_int)))
    (pdss_one (pds_ret (pd_slice (pd_var 0) pdo_none (pdo_some (pd_var 1))))))⟩
theorem dg_trimmed_1 (fx : Fx P K mg) : DefG P w K mg base (tab K) 1 "trimmed" 1 (fun ds => ds) f_trimmed := by
  obtain ⟨fd, F, O⟩ := ok_trimmed (P := P) (w := w) (base := base) fx
  exact ⟨_, fd, ["numbers"], fx.glo 17, F.kp, conv_pos F rfl (fun _ _ _ _ _ _ us hl => match us, hl with | [_], _ => rfl), O⟩
theorem ok_content (fx : Fx P K mg) : ∃ fd, FunD K "content" "content" (defArgs s_content) (defBody s_content) (defScope s_content) (h_content.dv K) [] ((atG "content") K) fd ∧ FnOk P w K mg base (L2.CX P w) 1 ((atG "content") K) fd ["numbers"] (spD K (tab K) f_content) := by
  obtain ⟨fd, F⟩ := fx.fun_ 4 (d := h_content)
  exact ⟨fd, F, fnOk_of F sc_content rfl rfl fun cdv A outer s H E hr tk => pdss_cons (pds_set 1 sc_content.nd pd_int)
    (pdss_cons (pds_for (vs := [2]) PassesOwn.leaving rfl (pdi_seq (pd_var 0)) (pg_name sc_content.nd rfl (by first | exact Or.inl rfl | exact Or.inr rfl) (by first | exact .inl rfl | exact .inr rfl)) (tg_name (by decide))
    (pdss_one (pds_set 1 sc_content.nd (pd_gcd (fx.blt 1) (pd_var 1) (pd_var 2)))))
    (pdss_one (pds_retV 1)))⟩
theorem dg_content_1 (fx : Fx P K mg) : DefG P w K mg base (tab K) 1 "content" 1 (fun ds => ds) f_content := by
  obtain ⟨fd, F, O⟩ := ok_content (P := P) (w := w) (base := base) fx
  exact ⟨_, fd, ["numbers"], fx.glo 18, F.kp, conv_pos F rfl (fun _ _ _ _ _ _ us hl => match us, hl with | [_], _ => rfl), O⟩
theorem ok_Poly_init (fx : Fx P K mg) : ∃ fd, FunD K "__init__" "Poly.__init__" (defArgs s_Poly_init) (defBody s_Poly_init) (defScope s_Poly_init) (h_Poly_init.dv K) [] ((atM "Poly" "__init__") K) fd ∧ FnOk P w K mg base (L2.CX P w) 33 ((atM "Poly" "__init__") K) fd ["self", "coefs", "den"] (spI K (tab K) 21 i_Poly) := by
  obtain ⟨fd, F⟩ := fx.fun_ 5 (d := h_Poly_init)
  exact ⟨fd, F, initOk_of F sc_Poly_init rfl rfl rfl fun cdv A outer s H E hr tk => pdss_cons (pds_if (pdt_eqS (pd_var 2) pd_int)
    (pdss_one (pds_raise 1 rfl tk (fx.exc 14) (fx.glo 15)))
    pdss_nil)
    (pdss_cons (pds_set 3 sc_Poly_init.nd (pd_callG (dg_trimmed_1 fx) (hr.mono (by decide)) tk (pda_cons (pd_listf (fx.free 16) (pd_var 1)) pda_nil)))
    (pdss_cons (pds_set 4 sc_Poly_init.nd (pd_bor 3 (pd_gcd (fx.blt 1) (pd_callG (dg_content_1 fx) (hr.mono (by decide)) tk (pda_cons (pd_var 3) pda_nil)) (pd_var 2))))
    (pdss_cons (pds_if (pdt_lt (pd_var 2) pd_int)
    (pdss_one (pds_set 4 sc_Poly_init.nd (pd_neg (pd_var 4))))
    pdss_nil)
    (pdss_cons (pds_fld (i := 0) (cd_Poly fx) rfl (pd_bor 3 (pd_tuplef (fx.free 19) (pd_lc (own := [("number", 5)]) rfl sc_Poly_init.nd (pdi_seq (pd_var 3)) (blkOk_by (by kernel_rfl)) (tg_name (by decide)) (fun s0 H1 C0 cl0 fp0 => pg_name sc_Poly_init.nd rfl (by first | exact Or.inl rfl | exact Or.inr rfl) (by first | exact .inl rfl | exact .inr rfl)) (fun s0 H1 C0 cl0 fp0 => pdts_nil) (fun s0 H1 C0 cl0 fp0 => pd_div ((dv_fn fx.1 (fx.bool 0) sc_Poly_init hr (by decide)).blk _ _ _ _ _) (pd_var 5) (pd_var 4))))))
    (pdss_one (pds_fld (i := 0) (cd_Poly fx) rfl (pd_div (dv_fn fx.1 (fx.bool 0) sc_Poly_init hr (by decide)) (pd_var 2) (pd_var 4))))))))⟩
theorem cg_Poly_2 (fx : Fx P K mg) : ClsG P w K mg base (tab K) 33 "Poly" 21 2 (fun ds => ds) i_Poly := by
  obtain ⟨fd, F, O⟩ := ok_Poly_init (P := P) (w := w) (base := base) fx
  exact ⟨_, fd, ["self", "coefs", "den"], fx.glo 3, (fx.mkr 4).kp, fx.mkr 4, convI_full (convI_dfl F 2 1 [] (fun Z => .nil) (List.cons_ne_nil _ _) rfl (fun _ _ _ _ _ _ _ us its h1 h2 => match us, h1, its, h2 with | [_, _, _], _, [_], _ => ⟨_, rfl, rfl⟩)), O⟩
theorem cg_Poly_1 (fx : Fx P K mg) : ClsG P w K mg base (tab K) 33 "Poly" 21 1 (fun ds => ds ++ [(.int 1)]) i_Poly := by
  obtain ⟨fd, F, O⟩ := ok_Poly_init (P := P) (w := w) (base := base) fx
  exact ⟨_, fd, ["self", "coefs", "den"], fx.glo 3, (fx.mkr 4).kp, fx.mkr 4, convI_dfl F 1 0 [(.int 1)] (fun Z => .cons (by simp only [Rep]; rfl) .nil) (List.cons_ne_nil _ _) rfl (fun _ _ _ _ _ _ _ us its h1 h2 => match us, h1, its, h2 with | [_, _], _, [_], _ => ⟨_, rfl, rfl⟩), O⟩
theorem ok_Poly_is_zero (fx : Fx P K mg) : ∃ fd, FunD K "is_zero" "Poly.is_zero" (defArgs s_Poly_is_zero) (defBody s_Poly_is_zero) (defScope s_Poly_is_zero) (h_Poly_is_zero.dv K) [] ((behind "property" "Poly" "is_zero") K) fd ∧ FnOk P w K mg base (L2.CX P w) 1 ((behind "property" "Poly" "is_zero") K) fd ["self"] (spD K (tab K) f_Poly_is_zero) := by
  obtain ⟨fd, F⟩ := fx.fun_ 6 (d := h_Poly_is_zero)
  exact ⟨fd, F, fnOk_of F sc_Poly_is_zero rfl rfl fun cdv A outer s H E hr tk => pdss_one (pds_ret (pd_eqS (pd_len (fx.free 10) (pd_fld (tbl [(21, 0)]) (tbl_all (all_cons (⟨(cd_Poly fx), rfl⟩) all_nil)) (pd_var 0))) pd_int))⟩
theorem po_Poly_is_zero (fx : Fx P K mg) : PropOk P w K mg base (tab K) 1 21 "is_zero" f_Poly_is_zero := by
  obtain ⟨fd, F, O⟩ := ok_Poly_is_zero (P := P) (w := w) (base := base) fx
  exact ⟨cd_Poly fx, _, _, fd, ["self"], propB_ok (fx.bool 2), FunD.bindsN F (fun _ _ _ _ _ _ us hl => match us, hl with | [_], _ => rfl), O⟩
theorem ok_primitive (fx : Fx P K mg) : ∃ fd, FunD K "primitive" "primitive" (defArgs s_primitive) (defBody s_primitive) (defScope s_primitive) (h_primitive.dv K) [] ((atG "primitive") K) fd ∧ FnOk P w K mg base (L2.CX P w) 35 ((atG "primitive") K) fd ["p"] (spD K (tab K) f_primitive) := by
  obtain ⟨fd, F⟩ := fx.fun_ 7 (d := h_primitive)
  exact ⟨fd, F, fnOk_of F sc_primitive rfl rfl fun cdv A outer s H E hr tk => pdss_cons (pds_if (pdt_tru (pd_att (k := 1) (tbl []) (tbl [(21, f_Poly_is_zero)]) (tbl_all (all_nil)) (tbl_all (all_cons ((po_Poly_is_zero fx).mono (by decide)) all_nil)) (hr.mono (by decide)) (pd_var 0)))
    (pdss_one (pds_retV 0))
    pdss_nil)
    (pdss_one (pds_ret (pd_callCG (cg_Poly_2 fx) (hr.mono (by decide)) tk (pda_cons (pd_fld (tbl [(21, 0)]) (tbl_all (all_cons (⟨(cd_Poly fx), rfl⟩) all_nil)) (pd_var 0)) (pda_cons (pd_callG (dg_content_1 fx) (hr.mono (by decide)) tk (pda_cons (pd_fld (tbl [(21, 0)]) (tbl_all (all_cons (⟨(cd_Poly fx), rfl⟩) all_nil)) (pd_var 0)) pda_nil)) pda_nil)))))⟩
theorem dg_primitive_1 (fx : Fx P K mg) : DefG P w K mg base (tab K) 35 "primitive" 1 (fun ds => ds) f_primitive := by
  obtain ⟨fd, F, O⟩ := ok_primitive (P := P) (w := w) (base := base) fx
  exact ⟨_, fd, ["p"], fx.glo 20, F.kp, conv_pos F rfl (fun _ _ _ _ _ _ us hl => match us, hl with | [_], _ => rfl), O⟩
theorem ok_divide (fx : Fx P K mg) : ∃ fd, FunD K "divide" "divide" (defArgs s_divide) (defBody s_divide) (defScope s_divide) (h_divide.dv K) [] ((atG "divide") K) fd ∧ FnOk P w K mg base (L2.CX P w) 35 ((atG "divide") K) fd ["p", "q"] (spD K (tab K) f_divide) := by
  obtain ⟨fd, F⟩ := fx.fun_ 8 (d := h_divide)
  exact ⟨fd, F, fnOk_of F sc_divide rfl rfl fun cdv A outer s H E hr tk => pdss_cons (pds_if (pdt_tru (pd_att (k := 1) (tbl []) (tbl [(21, f_Poly_is_zero)]) (tbl_all (all_nil)) (tbl_all (all_cons ((po_Poly_is_zero fx).mono (by decide)) all_nil)) (hr.mono (by decide)) (pd_var 1)))
    (pdss_one (pds_raise 2 rfl tk (fx.exc 22) (fx.glo 23)))
    pdss_nil)
    (pdss_cons (pds_set 2 sc_divide.nd (pd_len (fx.free 10) (pd_fld (tbl [(21, 0)]) (tbl_all (all_cons (⟨(cd_Poly fx), rfl⟩) all_nil)) (pd_var 1))))
    (pdss_cons (pds_set 3 sc_divide.nd (pd_item (pd_fld (tbl [(21, 0)]) (tbl_all (all_cons (⟨(cd_Poly fx), rfl⟩) all_nil)) (pd_var 1)) (pd_sub (pd_var 2) pd_int)))
    (pdss_cons (pds_set 4 sc_divide.nd (pd_listf (fx.free 16) (pd_fld (tbl [(21, 0)]) (tbl_all (all_cons (⟨(cd_Poly fx), rfl⟩) all_nil)) (pd_var 0))))
    (pdss_cons (pds_setLc (own := [("_", 6)]) rfl sc_divide.nd rfl rfl (sw_true rfl rfl rfl (by decide +kernel)) (pdi_rng1 (fx.free 13) (pd_add (pd_sub (pd_len (fx.free 10) (pd_var 4)) (pd_var 2)) pd_int)) (blkOk_by (by kernel_rfl)) (tg_name (by decide)) (fun s0 H1 C0 cl0 fp0 => pg_name sc_divide.nd rfl (by first | exact Or.inl rfl | exact Or.inr rfl) (by first | exact .inl rfl | exact .inr rfl)) (fun s0 H1 C0 cl0 fp0 => pdts_nil) (fun s0 H1 C0 cl0 fp0 => pd_int))
    (pdss_cons (pds_set 7 sc_divide.nd pd_int)
    (pdss_cons (pds_for (vs := [8]) PassesOwn.leaving rfl (pdi_rngD (fx.free 13) (pd_sub (pd_len (fx.free 10) (pd_var 5)) pd_int) (pd_neg pd_int)) (pg_name sc_divide.nd rfl (by first | exact Or.inl rfl | exact Or.inr rfl) (by first | exact .inl rfl | exact .inr rfl)) (tg_name (by decide))
    (pdss_cons (pds_set 9 sc_divide.nd (pd_item (pd_var 4) (pd_sub (pd_add (pd_var 8) (pd_var 2)) pd_int)))
    (pdss_cons (pds_frz 4 (pds_setLc (own := [("number", 11)]) rfl sc_divide.nd rfl rfl (sw_true rfl rfl rfl (by decide +kernel)) (pdi_seq (pd_var 4)) (blkOk_by (by kernel_rfl)) (tg_name (by decide)) (fun s0 H1 C0 cl0 fp0 => pg_name sc_divide.nd rfl (by first | exact Or.inl rfl | exact Or.inr rfl) (by first | exact .inl rfl | exact .inr rfl)) (fun s0 H1 C0 cl0 fp0 => pdts_nil) (fun s0 H1 C0 cl0 fp0 => pd_mul (pd_var 3) (pd_var 11))))
    (pdss_cons (pds_frz 5 (pds_setLc (own := [("number", 11)]) rfl sc_divide.nd rfl rfl (sw_true rfl rfl rfl (by decide +kernel)) (pdi_seq (pd_var 5)) (blkOk_by (by kernel_rfl)) (tg_name (by decide)) (fun s0 H1 C0 cl0 fp0 => pg_name sc_divide.nd rfl (by first | exact Or.inl rfl | exact Or.inr rfl) (by first | exact .inl rfl | exact .inr rfl)) (fun s0 H1 C0 cl0 fp0 => pdts_nil) (fun s0 H1 C0 cl0 fp0 => pd_mul (pd_var 3) (pd_var 11))))
    (pdss_cons (pds_for (vs := [10]) PassesOwn.leaving rfl (pdi_rng1 (fx.free 13) (pd_var 2)) (pg_name sc_divide.nd rfl (by first | exact Or.inl rfl | exact Or.inr rfl) (by first | exact .inl rfl | exact .inr rfl)) (tg_name (by decide))
    (pdss_one (pds_setIx (i := 4) (pd_sub (pd_item (pd_var 4) (pd_add (pd_var 8) (pd_var 10))) (pd_mul (pd_var 9) (pd_item (pd_fld (tbl [(21, 0)]) (tbl_all (all_cons (⟨(cd_Poly fx), rfl⟩) all_nil)) (pd_var 1)) (pd_var 10)))) (pd_add (pd_var 8) (pd_var 10)))))
    (pdss_cons (pds_setIx (i := 5) (pd_add (pd_item (pd_var 5) (pd_var 8)) (pd_var 9)) (pd_var 8))
    (pdss_one (pds_set 7 sc_divide.nd (pd_mul (pd_var 7) (pd_var 3))))))))))
    (pdss_cons (pds_set 12 sc_divide.nd (pd_mul (pd_var 7) (pd_fld (tbl [(21, 1)]) (tbl_all (all_cons (⟨(cd_Poly fx), rfl⟩) all_nil)) (pd_var 0))))
    (pdss_one (pds_ret (pd_bor 4 (pd_bor 5 (pd_tup (pda_cons (pd_callCG (cg_Poly_2 fx) (hr.mono (by decide)) tk (pda_cons (pd_lc (own := [("number", 11)]) rfl sc_divide.nd (pdi_seq (pd_var 5)) (blkOk_by (by kernel_rfl)) (tg_name (by decide)) (fun s0 H1 C0 cl0 fp0 => pg_name sc_divide.nd rfl (by first | exact Or.inl rfl | exact Or.inr rfl) (by first | exact .inl rfl | exact .inr rfl)) (fun s0 H1 C0 cl0 fp0 => pdts_nil) (fun s0 H1 C0 cl0 fp0 => pd_mul (pd_var 11) (pd_fld (tbl [(21, 1)]) (tbl_all (all_cons (⟨(cd_Poly fx), rfl⟩) all_nil)) (pd_var 1)))) (pda_cons (pd_var 12) pda_nil))) (pda_cons (pd_callCG (cg_Poly_2 fx) (hr.mono (by decide)) tk (pda_cons (pd_var 4) (pda_cons (pd_var 12) pda_nil))) pda_nil))))))))))))))⟩
theorem dg_divide_2 (fx : Fx P K mg) : DefG P w K mg base (tab K) 35 "divide" 2 (fun ds => ds) f_divide := by
  obtain ⟨fd, F, O⟩ := ok_divide (P := P) (w := w) (base := base) fx
  exact ⟨_, fd, ["p", "q"], fx.glo 21, F.kp, conv_pos F rfl (fun _ _ _ _ _ _ us hl => match us, hl with | [_, _], _ => rfl), O⟩
theorem ok_Fraction_init (fx : Fx P K mg) : ∃ fd, FunD K "__init__" "Fraction.__init__" (defArgs s_Fraction_init) (defBody s_Fraction_init) (defScope s_Fraction_init) (h_Fraction_init.dv K) [] ((atM "Fraction" "__init__") K) fd ∧ FnOk P w K mg base (L2.CX P w) 33 ((atM "Fraction" "__init__") K) fd ["self", "num", "den"] (spI K (tab K) 20 i_Fraction) := by
  obtain ⟨fd, F⟩ := fx.fun_ 9 (d := h_Fraction_init)
  exact ⟨fd, F, initOk_of F sc_Fraction_init rfl rfl rfl fun cdv A outer s H E hr tk => pdss_cons (pds_if (pdt_eqS (pd_var 2) pd_int)
    (pdss_one (pds_raise 1 rfl tk (fx.exc 14) (fx.glo 15)))
    pdss_nil)
    (pdss_cons (pds_set 3 sc_Fraction_init.nd (pd_gcd (fx.blt 1) (pd_var 1) (pd_var 2)))
    (pdss_cons (pds_if (pdt_lt (pd_var 2) pd_int)
    (pdss_one (pds_set 3 sc_Fraction_init.nd (pd_neg (pd_var 3))))
    pdss_nil)
    (pdss_cons (pds_fld (i := 0) (cd_Fraction fx) rfl (pd_div (dv_fn fx.1 (fx.bool 0) sc_Fraction_init hr (by decide)) (pd_var 1) (pd_var 3)))
    (pdss_one (pds_fld (i := 0) (cd_Fraction fx) rfl (pd_div (dv_fn fx.1 (fx.bool 0) sc_Fraction_init hr (by decide)) (pd_var 2) (pd_var 3)))))))⟩
theorem cg_Fraction_1 (fx : Fx P K mg) : ClsG P w K mg base (tab K) 33 "Fraction" 20 1 (fun ds => ds ++ [(.int 1)]) i_Fraction := by
  obtain ⟨fd, F, O⟩ := ok_Fraction_init (P := P) (w := w) (base := base) fx
  exact ⟨_, fd, ["self", "num", "den"], fx.glo 24, (fx.mkr 25).kp, fx.mkr 25, convI_dfl F 1 0 [(.int 1)] (fun Z => .cons (by simp only [Rep]; rfl) .nil) (List.cons_ne_nil _ _) rfl (fun _ _ _ _ _ _ _ us its h1 h2 => match us, h1, its, h2 with | [_, _], _, [_], _ => ⟨_, rfl, rfl⟩), O⟩
theorem cg_Fraction_2 (fx : Fx P K mg) : ClsG P w K mg base (tab K) 33 "Fraction" 20 2 (fun ds => ds) i_Fraction := by
  obtain ⟨fd, F, O⟩ := ok_Fraction_init (P := P) (w := w) (base := base) fx
  exact ⟨_, fd, ["self", "num", "den"], fx.glo 24, (fx.mkr 25).kp, fx.mkr 25, convI_full (convI_dfl F 2 1 [] (fun Z => .nil) (List.cons_ne_nil _ _) rfl (fun _ _ _ _ _ _ _ us its h1 h2 => match us, h1, its, h2 with | [_, _, _], _, [_], _ => ⟨_, rfl, rfl⟩)), O⟩
theorem ok_Poly_lead (fx : Fx P K mg) : ∃ fd, FunD K "lead" "Poly.lead" (defArgs s_Poly_lead) (defBody s_Poly_lead) (defScope s_Poly_lead) (h_Poly_lead.dv K) [] ((behind "property" "Poly" "lead") K) fd ∧ FnOk P w K mg base (L2.CX P w) 35 ((behind "property" "Poly" "lead") K) fd ["self"] (spD K (tab K) f_Poly_lead) := by
  obtain ⟨fd, F⟩ := fx.fun_ 10 (d := h_Poly_lead)
  exact ⟨fd, F, fnOk_of F sc_Poly_lead rfl rfl fun cdv A outer s H E hr tk => pdss_cons (pds_if (pdt_eqS (pd_len (fx.free 10) (pd_fld (tbl [(21, 0)]) (tbl_all (all_cons (⟨(cd_Poly fx), rfl⟩) all_nil)) (pd_var 0))) pd_int)
    (pdss_one (pds_ret (pd_callCG (cg_Fraction_1 fx) (hr.mono (by decide)) tk (pda_cons pd_int pda_nil))))
    pdss_nil)
    (pdss_one (pds_ret (pd_callCG (cg_Fraction_2 fx) (hr.mono (by decide)) tk (pda_cons (pd_item (pd_fld (tbl [(21, 0)]) (tbl_all (all_cons (⟨(cd_Poly fx), rfl⟩) all_nil)) (pd_var 0)) (pd_neg pd_int)) (pda_cons (pd_fld (tbl [(21, 1)]) (tbl_all (all_cons (⟨(cd_Poly fx), rfl⟩) all_nil)) (pd_var 0)) pda_nil)))))⟩
theorem po_Poly_lead (fx : Fx P K mg) : PropOk P w K mg base (tab K) 35 21 "lead" f_Poly_lead := by
  obtain ⟨fd, F, O⟩ := ok_Poly_lead (P := P) (w := w) (base := base) fx
  exact ⟨cd_Poly fx, _, _, fd, ["self"], propB_ok (fx.bool 3), FunD.bindsN F (fun _ _ _ _ _ _ us hl => match us, hl with | [_], _ => rfl), O⟩
theorem ok_Fraction_over (fx : Fx P K mg) : ∃ fd, FunD K "over" "Fraction.over" (defArgs s_Fraction_over) (defBody s_Fraction_over) (defScope s_Fraction_over) (h_Fraction_over.dv K) [] ((atM "Fraction" "over") K) fd ∧ FnOk P w K mg base (L2.CX P w) 35 ((atM "Fraction" "over") K) fd ["self", "other"] (spD K (tab K) f_Fraction_over) := by
  obtain ⟨fd, F⟩ := fx.fun_ 11 (d := h_Fraction_over)
  exact ⟨fd, F, fnOk_of F sc_Fraction_over rfl rfl fun cdv A outer s H E hr tk => pdss_cons (pds_if (pdt_eqS (pd_fld (tbl [(20, 0)]) (tbl_all (all_cons (⟨(cd_Fraction fx), rfl⟩) all_nil)) (pd_var 1)) pd_int)
    (pdss_one (pds_raise 1 rfl tk (fx.exc 14) (fx.glo 15)))
    pdss_nil)
    (pdss_one (pds_ret (pd_callCG (cg_Fraction_2 fx) (hr.mono (by decide)) tk (pda_cons (pd_mul (pd_fld (tbl [(20, 0)]) (tbl_all (all_cons (⟨(cd_Fraction fx), rfl⟩) all_nil)) (pd_var 0)) (pd_fld (tbl [(20, 1)]) (tbl_all (all_cons (⟨(cd_Fraction fx), rfl⟩) all_nil)) (pd_var 1))) (pda_cons (pd_mul (pd_fld (tbl [(20, 1)]) (tbl_all (all_cons (⟨(cd_Fraction fx), rfl⟩) all_nil)) (pd_var 0)) (pd_fld (tbl [(20, 0)]) (tbl_all (all_cons (⟨(cd_Fraction fx), rfl⟩) all_nil)) (pd_var 1))) pda_nil)))))⟩
theorem mo_Fraction_over_2 (fx : Fx P K mg) : MethOk P w K mg base (tab K) 35 20 "over" 2 (fun ds => ds) f_Fraction_over := by
  obtain ⟨fd, F, O⟩ := ok_Fraction_over (P := P) (w := w) (base := base) fx
  exact ⟨cd_Fraction fx, (by show ("over" : Str) ∉ fls 20; decide), _, fd, ["self", "other"], fx.meth 26, conv_pos F rfl (fun _ _ _ _ _ _ us hl => match us, hl with | [_, _], _ => rfl), O⟩
theorem ok_Poly_scaled (fx : Fx P K mg) : ∃ fd, FunD K "scaled" "Poly.scaled" (defArgs s_Poly_scaled) (defBody s_Poly_scaled) (defScope s_Poly_scaled) (h_Poly_scaled.dv K) [] ((atM "Poly" "scaled") K) fd ∧ FnOk P w K mg base (L2.CX P w) 35 ((atM "Poly" "scaled") K) fd ["self", "factor"] (spD K (tab K) f_Poly_scaled) := by
  obtain ⟨fd, F⟩ := fx.fun_ 12 (d := h_Poly_scaled)
  exact ⟨fd, F, fnOk_of F sc_Poly_scaled rfl rfl fun cdv A outer s H E hr tk => pdss_one (pds_ret (pd_callCG (cg_Poly_2 fx) (hr.mono (by decide)) tk (pda_cons (pd_lc (own := [("number", 2)]) rfl sc_Poly_scaled.nd (pdi_seq (pd_fld (tbl [(21, 0)]) (tbl_all (all_cons (⟨(cd_Poly fx), rfl⟩) all_nil)) (pd_var 0))) (blkOk_by (by kernel_rfl)) (tg_name (by decide)) (fun s0 H1 C0 cl0 fp0 => pg_name sc_Poly_scaled.nd rfl (by first | exact Or.inl rfl | exact Or.inr rfl) (by first | exact .inl rfl | exact .inr rfl)) (fun s0 H1 C0 cl0 fp0 => pdts_nil) (fun s0 H1 C0 cl0 fp0 => pd_mul (pd_var 2) (pd_fld (tbl [(20, 0)]) (tbl_all (all_cons (⟨(cd_Fraction fx), rfl⟩) all_nil)) (pd_var 1)))) (pda_cons (pd_mul (pd_fld (tbl [(21, 1)]) (tbl_all (all_cons (⟨(cd_Poly fx), rfl⟩) all_nil)) (pd_var 0)) (pd_fld (tbl [(20, 1)]) (tbl_all (all_cons (⟨(cd_Fraction fx), rfl⟩) all_nil)) (pd_var 1))) pda_nil))))⟩
theorem mo_Poly_scaled_2 (fx : Fx P K mg) : MethOk P w K mg base (tab K) 35 21 "scaled" 2 (fun ds => ds) f_Poly_scaled := by
  obtain ⟨fd, F, O⟩ := ok_Poly_scaled (P := P) (w := w) (base := base) fx
  exact ⟨cd_Poly fx, (by show ("scaled" : Str) ∉ fls 21; decide), _, fd, ["self", "factor"], fx.meth 27, conv_pos F rfl (fun _ _ _ _ _ _ us hl => match us, hl with | [_, _], _ => rfl), O⟩
theorem ok_monic (fx : Fx P K mg) : ∃ fd, FunD K "monic" "monic" (defArgs s_monic) (defBody s_monic) (defScope s_monic) (h_monic.dv K) [] ((atG "monic") K) fd ∧ FnOk P w K mg base (L2.CX P w) 37 ((atG "monic") K) fd ["p"] (spD K (tab K) f_monic) := by
  obtain ⟨fd, F⟩ := fx.fun_ 13 (d := h_monic)
  exact ⟨fd, F, fnOk_of F sc_monic rfl rfl fun cdv A outer s H E hr tk => pdss_cons (pds_if (pdt_tru (pd_att (k := 1) (tbl []) (tbl [(21, f_Poly_is_zero)]) (tbl_all (all_nil)) (tbl_all (all_cons ((po_Poly_is_zero fx).mono (by decide)) all_nil)) (hr.mono (by decide)) (pd_var 0)))
    (pdss_one (pds_retV 0))
    pdss_nil)
    (pdss_one (pds_ret (pd_meth (k := 35) (meths_cons ((mo_Poly_scaled_2 fx).mono (by decide)) meths_nil) (hr.mono (by decide)) tk (pd_var 0) (pda_cons (pd_meth (k := 35) (meths_cons ((mo_Fraction_over_2 fx).mono (by decide)) meths_nil) (hr.mono (by decide)) tk (pd_callCG (cg_Fraction_1 fx) (hr.mono (by decide)) tk (pda_cons pd_int pda_nil)) (pda_cons (pd_att (k := 35) (tbl []) (tbl [(21, f_Poly_lead)]) (tbl_all (all_nil)) (tbl_all (all_cons ((po_Poly_lead fx).mono (by decide)) all_nil)) (hr.mono (by decide)) (pd_var 0)) pda_nil)) pda_nil))))⟩
theorem dg_monic_1 (fx : Fx P K mg) : DefG P w K mg base (tab K) 37 "monic" 1 (fun ds => ds) f_monic := by
  obtain ⟨fd, F, O⟩ := ok_monic (P := P) (w := w) (base := base) fx
  exact ⟨_, fd, ["p"], fx.glo 11, F.kp, conv_pos F rfl (fun _ _ _ _ _ _ us hl => match us, hl with | [_], _ => rfl), O⟩
theorem ok_common_divisor (fx : Fx P K mg) : ∃ fd, FunD K "common_divisor" "common_divisor" (defArgs s_common_divisor) (defBody s_common_divisor) (defScope s_common_divisor) (h_common_divisor.dv K) [] ((atG "common_divisor") K) fd ∧ FnOk P w K mg base (L2.CX P w) 38 ((atG "common_divisor") K) fd ["p", "q"] (spD K (tab K) f_common_divisor) := by
  obtain ⟨fd, F⟩ := fx.fun_ 14 (d := h_common_divisor)
  exact ⟨fd, F, fnOk_of F sc_common_divisor rfl rfl fun cdv A outer s H E hr tk => pdss_cons (pds_set 2 sc_common_divisor.nd (pd_callG (dg_primitive_1 fx) (hr.mono (by decide)) tk (pda_cons (pd_var 0) pda_nil)))
    (pdss_cons (pds_set 3 sc_common_divisor.nd (pd_callG (dg_primitive_1 fx) (hr.mono (by decide)) tk (pda_cons (pd_var 1) pda_nil)))
    (pdss_cons (pds_while PassesOwn.leaving (pdt_not (pdt_tru (pd_att (k := 1) (tbl []) (tbl [(21, f_Poly_is_zero)]) (tbl_all (all_nil)) (tbl_all (all_cons ((po_Poly_is_zero fx).mono (by decide)) all_nil)) (hr.mono (by decide)) (pd_var 3))))
    (pdss_cons (pds_set 4 sc_common_divisor.nd (pd_item (pd_callG (dg_divide_2 fx) (hr.mono (by decide)) tk (pda_cons (pd_var 2) (pda_cons (pd_var 3) pda_nil))) pd_int))
    (pdss_cons (pds_set 2 sc_common_divisor.nd (pd_var 3))
    (pdss_one (pds_set 3 sc_common_divisor.nd (pd_callG (dg_primitive_1 fx) (hr.mono (by decide)) tk (pda_cons (pd_var 4) pda_nil)))))))
    (pdss_one (pds_ret (pd_callG (dg_monic_1 fx) (hr.mono (by decide)) tk (pda_cons (pd_var 2) pda_nil))))))⟩
theorem dg_common_divisor_2 (fx : Fx P K mg) : DefG P w K mg base (tab K) 38 "common_divisor" 2 (fun ds => ds) f_common_divisor := by
  obtain ⟨fd, F, O⟩ := ok_common_divisor (P := P) (w := w) (base := base) fx
  exact ⟨_, fd, ["p", "q"], fx.glo 5, F.kp, conv_pos F rfl (fun _ _ _ _ _ _ us hl => match us, hl with | [_, _], _ => rfl), O⟩
theorem ok_law_is_integer (fx : Fx P K mg) : ∃ fd, FunD K "_law_is_integer" "_law_is_integer" (defArgs s_law_is_integer) (defBody s_law_is_integer) (defScope s_law_is_integer) (h_law_is_integer.dv K) [] ((atG "_law_is_integer") K) fd ∧ FnOk P w K mg base (L2.CX P w) 1 ((atG "_law_is_integer") K) fd ["_law_x"] (spD K (tab K) f_law_is_integer) := by
  obtain ⟨fd, F⟩ := fx.fun_ 15 (d := h_law_is_integer)
  exact ⟨fd, F, fnOk_of F sc_law_is_integer rfl rfl fun cdv A outer s H E hr tk => pdss_one (pds_ret (pd_and' (pd_isT "int" [] (all_nil) (fx.free 28) (fx.free 35) (pd_var 0) PyProof.Rows.boot_int) (pd_one (pd_not (pd_isT "bool" [] (all_nil) (fx.free 28) (fx.free 34) (pd_var 0) PyProof.Rows.boot_bool)))))⟩
theorem dg_law_is_integer_1 (fx : Fx P K mg) : DefG P w K mg base (tab K) 1 "_law_is_integer" 1 (fun ds => ds) f_law_is_integer := by
  obtain ⟨fd, F, O⟩ := ok_law_is_integer (P := P) (w := w) (base := base) fx
  exact ⟨_, fd, ["_law_x"], fx.glo 31, F.kp, conv_pos F rfl (fun _ _ _ _ _ _ us hl => match us, hl with | [_], _ => rfl), O⟩
theorem ok_law_divisor (fx : Fx P K mg) : ∃ fd, FunD K "_law_divisor" "_law_divisor" (defArgs s_law_divisor) (defBody s_law_divisor) (defScope s_law_divisor) (h_law_divisor.dv K) [] ((atG "_law_divisor") K) fd ∧ FnOk P w K mg base (L2.CX P w) 1 ((atG "_law_divisor") K) fd ["_law_a", "_law_b"] (spD K (tab K) f_law_divisor) := by
  obtain ⟨fd, F⟩ := fx.fun_ 16 (d := h_law_divisor)
  exact ⟨fd, F, fnOk_of F sc_law_divisor rfl rfl fun cdv A outer s H E hr tk => pdss_cons (pds_set 0 sc_law_divisor.nd (pd_abs (fx.free 36) (pd_var 0)))
    (pdss_cons (pds_set 1 sc_law_divisor.nd (pd_abs (fx.free 36) (pd_var 1)))
    (pdss_cons (pds_while PassesOwn.leaving (pdt_gt (pd_var 1) pd_int)
    (pdss_cons (pds_set 2 sc_law_divisor.nd (pd_mod (pd_intf (fx.free 35) (pd_var 0)) (pd_var 1)))
    (pdss_cons (pds_set 0 sc_law_divisor.nd (pd_var 1))
    (pdss_one (pds_set 1 sc_law_divisor.nd (pd_var 2))))))
    (pdss_one (pds_retV 0))))⟩
theorem dg_law_divisor_2 (fx : Fx P K mg) : DefG P w K mg base (tab K) 1 "_law_divisor" 2 (fun ds => ds) f_law_divisor := by
  obtain ⟨fd, F, O⟩ := ok_law_divisor (P := P) (w := w) (base := base) fx
  exact ⟨_, fd, ["_law_a", "_law_b"], fx.glo 32, F.kp, conv_pos F rfl (fun _ _ _ _ _ _ us hl => match us, hl with | [_, _], _ => rfl), O⟩
theorem ok_law_poly_is (fx : Fx P K mg) : ∃ fd, FunD K "_law_poly_is" "_law_poly_is" (defArgs s_law_poly_is) (defBody s_law_poly_is) (defScope s_law_poly_is) (h_law_poly_is.dv K) [] ((atG "_law_poly_is") K) fd ∧ FnOk P w K mg base (L2.CX P w) 2 ((atG "_law_poly_is") K) fd ["_law_p", "_law_coefs_here", "_law_den"] (spD K (tab K) f_law_poly_is) := by
  obtain ⟨fd, F⟩ := fx.fun_ 17 (d := h_law_poly_is)
  exact ⟨fd, F, fnOk_of F sc_law_poly_is rfl rfl fun cdv A outer s H E hr tk => pdss_cons (pds_if (pdt_of (pdw_or (pdt_not (pdt_tru (pd_isC 21 [] [(21, true)] (all_nil) (all_cons (⟨of_decide_eq_true (fx.bool 4), (isi_Poly fx)⟩) all_nil) (fx.free 28) (fx.glo 3) (pd_var 0)))) (pdw_or (pdt_not (pdt_tru (pd_isT "tuple" [] (all_nil) (fx.free 28) (fx.free 19) (pd_fld (tbl [(21, 0)]) (tbl_all (all_cons (⟨(cd_Poly fx), rfl⟩) all_nil)) (pd_var 0)) PyProof.Rows.boot_tuple))) (pdw_or (pdt_not (pdt_tru (pd_callG (dg_law_is_integer_1 fx) (hr.mono (by decide)) tk (pda_cons (pd_fld (tbl [(21, 1)]) (tbl_all (all_cons (⟨(cd_Poly fx), rfl⟩) all_nil)) (pd_var 0)) pda_nil)))) (pdw_or1 (pdt_lt (pd_fld (tbl [(21, 1)]) (tbl_all (all_cons (⟨(cd_Poly fx), rfl⟩) all_nil)) (pd_var 0)) pd_int))))))
    (pdss_one (pds_ret pd_bl))
    pdss_nil)
    (pdss_cons (pds_set 3 sc_law_poly_is.nd (pd_fld (tbl [(21, 1)]) (tbl_all (all_cons (⟨(cd_Poly fx), rfl⟩) all_nil)) (pd_var 0)))
    (pdss_cons (pds_for (vs := [4]) PassesOwn.leaving rfl (pdi_seq (pd_fld (tbl [(21, 0)]) (tbl_all (all_cons (⟨(cd_Poly fx), rfl⟩) all_nil)) (pd_var 0))) (pg_name sc_law_poly_is.nd rfl (by first | exact Or.inl rfl | exact Or.inr rfl) (by first | exact .inl rfl | exact .inr rfl)) (tg_name (by decide))
    (pdss_cons (pds_if (pdt_not (pdt_tru (pd_callG (dg_law_is_integer_1 fx) (hr.mono (by decide)) tk (pda_cons (pd_var 4) pda_nil))))
    (pdss_one (pds_ret pd_bl))
    pdss_nil)
    (pdss_one (pds_set 3 sc_law_poly_is.nd (pd_callG (dg_law_divisor_2 fx) (hr.mono (by decide)) tk (pda_cons (pd_var 3) (pda_cons (pd_var 4) pda_nil)))))))
    (pdss_cons (pds_if (pdt_of (pdw_or (pdt_neS (pd_var 3) pd_int) (pdw_or1 (pdt_of (pdw_and (pdt_gt (pd_len (fx.free 10) (pd_fld (tbl [(21, 0)]) (tbl_all (all_cons (⟨(cd_Poly fx), rfl⟩) all_nil)) (pd_var 0))) pd_int) (pdw_and1 (pdt_eqS (pd_item (pd_fld (tbl [(21, 0)]) (tbl_all (all_cons (⟨(cd_Poly fx), rfl⟩) all_nil)) (pd_var 0)) (pd_neg pd_int)) pd_int)))))))
    (pdss_one (pds_ret pd_bl))
    pdss_nil)
    (pdss_cons (pds_set 5 sc_law_poly_is.nd (pd_max rfl (fx.free 33) (pd_len (fx.free 10) (pd_fld (tbl [(21, 0)]) (tbl_all (all_cons (⟨(cd_Poly fx), rfl⟩) all_nil)) (pd_var 0))) (pd_len (fx.free 10) (pd_var 1))))
    (pdss_cons (pds_set 6 sc_law_poly_is.nd (pd_cat (pd_listf (fx.free 16) (pd_fld (tbl [(21, 0)]) (tbl_all (all_cons (⟨(cd_Poly fx), rfl⟩) all_nil)) (pd_var 0))) (pd_lc (own := [("_law_k", 7)]) rfl sc_law_poly_is.nd (pdi_rng1 (fx.free 13) (pd_sub (pd_var 5) (pd_len (fx.free 10) (pd_fld (tbl [(21, 0)]) (tbl_all (all_cons (⟨(cd_Poly fx), rfl⟩) all_nil)) (pd_var 0))))) (blkOk_by (by kernel_rfl)) (tg_name (by decide)) (fun s0 H1 C0 cl0 fp0 => pg_name sc_law_poly_is.nd rfl (by first | exact Or.inl rfl | exact Or.inr rfl) (by first | exact .inl rfl | exact .inr rfl)) (fun s0 H1 C0 cl0 fp0 => pdts_nil) (fun s0 H1 C0 cl0 fp0 => pd_int))))
    (pdss_cons (pds_set 8 sc_law_poly_is.nd (pd_cat (pd_listf (fx.free 16) (pd_var 1)) (pd_lc (own := [("_law_k", 7)]) rfl sc_law_poly_is.nd (pdi_rng1 (fx.free 13) (pd_sub (pd_var 5) (pd_len (fx.free 10) (pd_var 1)))) (blkOk_by (by kernel_rfl)) (tg_name (by decide)) (fun s0 H1 C0 cl0 fp0 => pg_name sc_law_poly_is.nd rfl (by first | exact Or.inl rfl | exact Or.inr rfl) (by first | exact .inl rfl | exact .inr rfl)) (fun s0 H1 C0 cl0 fp0 => pdts_nil) (fun s0 H1 C0 cl0 fp0 => pd_int))))
    (pdss_cons (pds_for (vs := [7]) PassesOwn.leaving rfl (pdi_rng1 (fx.free 13) (pd_var 5)) (pg_name sc_law_poly_is.nd rfl (by first | exact Or.inl rfl | exact Or.inr rfl) (by first | exact .inl rfl | exact .inr rfl)) (tg_name (by decide))
    (pdss_one (pds_if (pdt_neS (pd_mul (pd_item (pd_var 6) (pd_var 7)) (pd_var 2)) (pd_mul (pd_item (pd_var 8) (pd_var 7)) (pd_fld (tbl [(21, 1)]) (tbl_all (all_cons (⟨(cd_Poly fx), rfl⟩) all_nil)) (pd_var 0))))
    (pdss_one (pds_ret pd_bl))
    pdss_nil)))
    (pdss_one (pds_ret pd_bl)))))))))⟩
theorem dg_law_poly_is_3 (fx : Fx P K mg) : DefG P w K mg base (tab K) 2 "_law_poly_is" 3 (fun ds => ds) f_law_poly_is := by
  obtain ⟨fd, F, O⟩ := ok_law_poly_is (P := P) (w := w) (base := base) fx
  exact ⟨_, fd, ["_law_p", "_law_coefs_here", "_law_den"], fx.glo 12, F.kp, conv_pos F rfl (fun _ _ _ _ _ _ us hl => match us, hl with | [_, _, _], _ => rfl), O⟩
theorem ok_law_trimmed (fx : Fx P K mg) : ∃ fd, FunD K "_law_trimmed" "_law_trimmed" (defArgs s_law_trimmed) (defBody s_law_trimmed) (defScope s_law_trimmed) (h_law_trimmed.dv K) [] ((atG "_law_trimmed") K) fd ∧ FnOk P w K mg base (L2.CX P w) 1 ((atG "_law_trimmed") K) fd ["_law_coefs_here"] (spD K (tab K) f_law_trimmed) := by
  obtain ⟨fd, F⟩ := fx.fun_ 18 (d := h_law_trimmed)
  exact ⟨fd, F, fnOk_of F sc_law_trimmed rfl rfl fun cdv A outer s H E hr tk => pdss_cons (pds_set 1 sc_law_trimmed.nd (pd_len (fx.free 10) (pd_var 0)))
    (pdss_cons (pds_while PassesOwn.leaving (pdt_of (pdw_and (pdt_gt (pd_var 1) pd_int) (pdw_and1 (pdt_eqS (pd_item (pd_var 0) (pd_sub (pd_var 1) pd_int)) pd_int))))
    (pdss_one (pds_set 1 sc_law_trimmed.nd (pd_sub (pd_var 1) pd_int))))
    (pdss_one (pds_ret (pd_slice (pd_var 0) pdo_none (pdo_some (pd_var 1))))))⟩
theorem dg_law_trimmed_1 (fx : Fx P K mg) : DefG P w K mg base (tab K) 1 "_law_trimmed" 1 (fun ds => ds) f_law_trimmed := by
  obtain ⟨fd, F, O⟩ := ok_law_trimmed (P := P) (w := w) (base := base) fx
  exact ⟨_, fd, ["_law_coefs_here"], fx.glo 9, F.kp, conv_pos F rfl (fun _ _ _ _ _ _ us hl => match us, hl with | [_], _ => rfl), O⟩
theorem ok_law_reduced (fx : Fx P K mg) : ∃ fd, FunD K "_law_reduced" "_law_reduced" (defArgs s_law_reduced) (defBody s_law_reduced) (defScope s_law_reduced) (h_law_reduced.dv K) [] ((atG "_law_reduced") K) fd ∧ FnOk P w K mg base (L2.CX P w) 33 ((atG "_law_reduced") K) fd ["_law_p"] (spD K (tab K) f_law_reduced) := by
  obtain ⟨fd, F⟩ := fx.fun_ 19 (d := h_law_reduced)
  exact ⟨fd, F, fnOk_of F sc_law_reduced rfl rfl fun cdv A outer s H E hr tk => pdss_cons (pds_set 1 sc_law_reduced.nd pd_int)
    (pdss_cons (pds_for (vs := [2]) PassesOwn.leaving rfl (pdi_seq (pd_var 0)) (pg_name sc_law_reduced.nd rfl (by first | exact Or.inl rfl | exact Or.inr rfl) (by first | exact .inl rfl | exact .inr rfl)) (tg_name (by decide))
    (pdss_one (pds_set 1 sc_law_reduced.nd (pd_callG (dg_law_divisor_2 fx) (hr.mono (by decide)) tk (pda_cons (pd_var 1) (pda_cons (pd_var 2) pda_nil))))))
    (pdss_cons (pds_if (pdt_eqS (pd_var 1) pd_int)
    (pdss_one (pds_ret (pd_lst pda_nil)))
    pdss_nil)
    (pdss_one (pds_ret (pd_lc (own := [("_law_number", 2)]) rfl sc_law_reduced.nd (pdi_seq (pd_var 0)) (blkOk_by (by kernel_rfl)) (tg_name (by decide)) (fun s0 H1 C0 cl0 fp0 => pg_name sc_law_reduced.nd rfl (by first | exact Or.inl rfl | exact Or.inr rfl) (by first | exact .inl rfl | exact .inr rfl)) (fun s0 H1 C0 cl0 fp0 => pdts_nil) (fun s0 H1 C0 cl0 fp0 => pd_div ((dv_fn fx.1 (fx.bool 0) sc_law_reduced hr (by decide)).blk _ _ _ _ _) (pd_var 2) (pd_var 1)))))))⟩
theorem dg_law_reduced_1 (fx : Fx P K mg) : DefG P w K mg base (tab K) 33 "_law_reduced" 1 (fun ds => ds) f_law_reduced := by
  obtain ⟨fd, F, O⟩ := ok_law_reduced (P := P) (w := w) (base := base) fx
  exact ⟨_, fd, ["_law_p"], fx.glo 37, F.kp, conv_pos F rfl (fun _ _ _ _ _ _ us hl => match us, hl with | [_], _ => rfl), O⟩
theorem ok_law_rest (fx : Fx P K mg) : ∃ fd, FunD K "_law_rest" "_law_rest" (defArgs s_law_rest) (defBody s_law_rest) (defScope s_law_rest) (h_law_rest.dv K) [] ((atG "_law_rest") K) fd ∧ FnOk P w K mg base (L2.CX P w) 2 ((atG "_law_rest") K) fd ["_law_p", "_law_q"] (spD K (tab K) f_law_rest) := by
  obtain ⟨fd, F⟩ := fx.fun_ 20 (d := h_law_rest)
  exact ⟨fd, F, fnOk_of F sc_law_rest rfl rfl fun cdv A outer s H E hr tk => pdss_cons (pds_set 2 sc_law_rest.nd (pd_listf (fx.free 16) (pd_var 0)))
    (pdss_cons (pds_for (vs := [3]) PassesOwn.leaving rfl (pdi_rng1 (fx.free 13) (pd_len (fx.free 10) (pd_var 0))) (pg_name sc_law_rest.nd rfl (by first | exact Or.inl rfl | exact Or.inr rfl) (by first | exact .inl rfl | exact .inr rfl)) (tg_name (by decide))
    (pdss_one (pds_if (pdt_ge (pd_len (fx.free 10) (pd_var 2)) (pd_len (fx.free 10) (pd_var 1)))
    (pdss_cons (pds_set 4 sc_law_rest.nd (pd_item (pd_var 2) (pd_neg pd_int)))
    (pdss_cons (pds_set 5 sc_law_rest.nd (pd_sub (pd_len (fx.free 10) (pd_var 2)) (pd_len (fx.free 10) (pd_var 1))))
    (pdss_cons (pds_frz 2 (pds_setLc (own := [("_law_number", 7)]) rfl sc_law_rest.nd rfl rfl (sw_true rfl rfl rfl (by decide +kernel)) (pdi_seq (pd_var 2)) (blkOk_by (by kernel_rfl)) (tg_name (by decide)) (fun s0 H1 C0 cl0 fp0 => pg_name sc_law_rest.nd rfl (by first | exact Or.inl rfl | exact Or.inr rfl) (by first | exact .inl rfl | exact .inr rfl)) (fun s0 H1 C0 cl0 fp0 => pdts_nil) (fun s0 H1 C0 cl0 fp0 => pd_mul (pd_item (pd_var 1) (pd_neg pd_int)) (pd_var 7))))
    (pdss_cons (pds_for (vs := [6]) PassesOwn.leaving rfl (pdi_rng1 (fx.free 13) (pd_len (fx.free 10) (pd_var 1))) (pg_name sc_law_rest.nd rfl (by first | exact Or.inl rfl | exact Or.inr rfl) (by first | exact .inl rfl | exact .inr rfl)) (tg_name (by decide))
    (pdss_one (pds_setIx (i := 2) (pd_sub (pd_item (pd_var 2) (pd_add (pd_var 5) (pd_var 6))) (pd_mul (pd_var 4) (pd_item (pd_var 1) (pd_var 6)))) (pd_add (pd_var 5) (pd_var 6)))))
    (pdss_one (pds_set 2 sc_law_rest.nd (pd_slice (pd_var 2) pdo_none (pdo_some (pd_neg pd_int)))))))))
    pdss_nil)))
    (pdss_one (pds_frz 2 (pds_ret (pd_callG (dg_law_trimmed_1 fx) (hr.mono (by decide)) tk (pda_cons (pd_var 2) pda_nil))))))⟩
theorem dg_law_rest_2 (fx : Fx P K mg) : DefG P w K mg base (tab K) 2 "_law_rest" 2 (fun ds => ds) f_law_rest := by
  obtain ⟨fd, F, O⟩ := ok_law_rest (P := P) (w := w) (base := base) fx
  exact ⟨_, fd, ["_law_p", "_law_q"], fx.glo 30, F.kp, conv_pos F rfl (fun _ _ _ _ _ _ us hl => match us, hl with | [_, _], _ => rfl), O⟩
theorem ok_law_degree (fx : Fx P K mg) : ∃ fd, FunD K "_law_degree" "_law_degree" (defArgs s_law_degree) (defBody s_law_degree) (defScope s_law_degree) (h_law_degree.dv K) [] ((atG "_law_degree") K) fd ∧ FnOk P w K mg base (L2.CX P w) 34 ((atG "_law_degree") K) fd ["_law_p", "_law_q"] (spD K (tab K) f_law_degree) := by
  obtain ⟨fd, F⟩ := fx.fun_ 21 (d := h_law_degree)
  exact ⟨fd, F, fnOk_of F sc_law_degree rfl rfl fun cdv A outer s H E hr tk => pdss_cons (pds_set 2 sc_law_degree.nd (pd_callG (dg_law_reduced_1 fx) (hr.mono (by decide)) tk (pda_cons (pd_callG (dg_law_trimmed_1 fx) (hr.mono (by decide)) tk (pda_cons (pd_var 0) pda_nil)) pda_nil)))
    (pdss_cons (pds_set 3 sc_law_degree.nd (pd_callG (dg_law_reduced_1 fx) (hr.mono (by decide)) tk (pda_cons (pd_callG (dg_law_trimmed_1 fx) (hr.mono (by decide)) tk (pda_cons (pd_var 1) pda_nil)) pda_nil)))
    (pdss_cons (pds_for (vs := [4]) PassesOwn.leaving rfl (pdi_rng1 (fx.free 13) (pd_add (pd_add (pd_len (fx.free 10) (pd_var 0)) (pd_len (fx.free 10) (pd_var 1))) pd_int)) (pg_name sc_law_degree.nd rfl (by first | exact Or.inl rfl | exact Or.inr rfl) (by first | exact .inl rfl | exact .inr rfl)) (tg_name (by decide))
    (pdss_one (pds_if (pdt_gt (pd_len (fx.free 10) (pd_var 3)) pd_int)
    (pdss_cons (pds_frz 3 (pds_frz 2 (pds_set 5 sc_law_degree.nd (pd_callG (dg_law_reduced_1 fx) (hr.mono (by decide)) tk (pda_cons (pd_callG (dg_law_rest_2 fx) (hr.mono (by decide)) tk (pda_cons (pd_var 2) (pda_cons (pd_var 3) pda_nil))) pda_nil)))))
    (pdss_cons (pds_frz 3 (pds_set 2 sc_law_degree.nd (pd_var 3)))
    (pdss_one (pds_frz 5 (pds_set 3 sc_law_degree.nd (pd_var 5))))))
    pdss_nil)))
    (pdss_one (pds_ret (pd_sub (pd_len (fx.free 10) (pd_var 2)) pd_int)))))⟩
theorem dg_law_degree_2 (fx : Fx P K mg) : DefG P w K mg base (tab K) 34 "_law_degree" 2 (fun ds => ds) f_law_degree := by
  obtain ⟨fd, F, O⟩ := ok_law_degree (P := P) (w := w) (base := base) fx
  exact ⟨_, fd, ["_law_p", "_law_q"], fx.glo 29, F.kp, conv_pos F rfl (fun _ _ _ _ _ _ us hl => match us, hl with | [_, _], _ => rfl), O⟩
theorem ok_law_is_divisor (fx : Fx P K mg) : ∃ fd, FunD K "_law_is_divisor" "_law_is_divisor" (defArgs s_law_is_divisor) (defBody s_law_is_divisor) (defScope s_law_is_divisor) (h_law_is_divisor.dv K) [] ((atG "_law_is_divisor") K) fd ∧ FnOk P w K mg base (L2.CX P w) 35 ((atG "_law_is_divisor") K) fd ["_law_d", "_law_p", "_law_q"] (spD K (tab K) f_law_is_divisor) := by
  obtain ⟨fd, F⟩ := fx.fun_ 22 (d := h_law_is_divisor)
  exact ⟨fd, F, fnOk_of F sc_law_is_divisor rfl rfl fun cdv A outer s H E hr tk => pdss_cons (pds_if (pdt_of (pdw_or (pdt_not (pdt_tru (pd_isC 21 [] [(21, true)] (all_nil) (all_cons (⟨of_decide_eq_true (fx.bool 4), (isi_Poly fx)⟩) all_nil) (fx.free 28) (fx.glo 3) (pd_var 0)))) (pdw_or1 (pdt_not (pdt_tru (pd_callG (dg_law_poly_is_3 fx) (hr.mono (by decide)) tk (pda_cons (pd_var 0) (pda_cons (pd_listf (fx.free 16) (pd_fld (tbl [(21, 0)]) (tbl_all (all_cons (⟨(cd_Poly fx), rfl⟩) all_nil)) (pd_var 0))) (pda_cons (pd_fld (tbl [(21, 1)]) (tbl_all (all_cons (⟨(cd_Poly fx), rfl⟩) all_nil)) (pd_var 0)) pda_nil)))))))))
    (pdss_one (pds_ret pd_bl))
    pdss_nil)
    (pdss_cons (pds_set 3 sc_law_is_divisor.nd (pd_callG (dg_law_degree_2 fx) (hr.mono (by decide)) tk (pda_cons (pd_var 1) (pda_cons (pd_var 2) pda_nil))))
    (pdss_cons (pds_if (pdt_neS (pd_len (fx.free 10) (pd_fld (tbl [(21, 0)]) (tbl_all (all_cons (⟨(cd_Poly fx), rfl⟩) all_nil)) (pd_var 0))) (pd_add (pd_var 3) pd_int))
    (pdss_one (pds_ret pd_bl))
    pdss_nil)
    (pdss_cons (pds_if (pdt_lt (pd_var 3) pd_int)
    (pdss_one (pds_ret pd_bl))
    pdss_nil)
    (pdss_cons (pds_if (pdt_neS (pd_item (pd_fld (tbl [(21, 0)]) (tbl_all (all_cons (⟨(cd_Poly fx), rfl⟩) all_nil)) (pd_var 0)) (pd_neg pd_int)) (pd_fld (tbl [(21, 1)]) (tbl_all (all_cons (⟨(cd_Poly fx), rfl⟩) all_nil)) (pd_var 0)))
    (pdss_one (pds_ret pd_bl))
    pdss_nil)
    (pdss_cons (pds_set 4 sc_law_is_divisor.nd (pd_listf (fx.free 16) (pd_fld (tbl [(21, 0)]) (tbl_all (all_cons (⟨(cd_Poly fx), rfl⟩) all_nil)) (pd_var 0))))
    (pdss_one (pds_ret (pd_bor 4 (pd_and' (pd_eqS (pd_len (fx.free 10) (pd_callG (dg_law_rest_2 fx) (hr.mono (by decide)) tk (pda_cons (pd_callG (dg_law_trimmed_1 fx) (hr.mono (by decide)) tk (pda_cons (pd_var 1) pda_nil)) (pda_cons (pd_var 4) pda_nil)))) pd_int) (pd_one (pd_eqS (pd_len (fx.free 10) (pd_callG (dg_law_rest_2 fx) (hr.mono (by decide)) tk (pda_cons (pd_callG (dg_law_trimmed_1 fx) (hr.mono (by decide)) tk (pda_cons (pd_var 2) pda_nil)) (pda_cons (pd_var 4) pda_nil)))) pd_int)))))))))))⟩
theorem dg_law_is_divisor_3 (fx : Fx P K mg) : DefG P w K mg base (tab K) 35 "_law_is_divisor" 3 (fun ds => ds) f_law_is_divisor := by
  obtain ⟨fd, F, O⟩ := ok_law_is_divisor (P := P) (w := w) (base := base) fx
  exact ⟨_, fd, ["_law_d", "_law_p", "_law_q"], fx.glo 6, F.kp, conv_pos F rfl (fun _ _ _ _ _ _ us hl => match us, hl with | [_, _, _], _ => rfl), O⟩
theorem ok_common_divisor_of (fx : Fx P K mg) : ∃ fd, FunD K "common_divisor_of" "common_divisor_of" (defArgs s_common_divisor_of) (defBody s_common_divisor_of) (defScope s_common_divisor_of) (h_common_divisor_of.dv K) [] ((atG "common_divisor_of") K) fd ∧ FnOk P w K mg base (L2.CX P w) 39 ((atG "common_divisor_of") K) fd ["polys"] (spD K (tab K) f_common_divisor_of) := by
  obtain ⟨fd, F⟩ := fx.fun_ 23 (d := h_common_divisor_of)
  exact ⟨fd, F, fnOk_of F sc_common_divisor_of rfl rfl fun cdv A outer s H E hr tk => pdss_cons (pds_set 1 sc_common_divisor_of.nd (pd_callCG (cg_Poly_1 fx) (hr.mono (by decide)) tk (pda_cons (pd_lst pda_nil) pda_nil)))
    (pdss_cons (pds_for (vs := [2]) PassesOwn.leaving rfl (pdi_seq (pd_var 0)) (pg_name sc_common_divisor_of.nd rfl (by first | exact Or.inl rfl | exact Or.inr rfl) (by first | exact .inl rfl | exact .inr rfl)) (tg_name (by decide))
    (pdss_one (pds_set 1 sc_common_divisor_of.nd (pd_callG (dg_common_divisor_2 fx) (hr.mono (by decide)) tk (pda_cons (pd_var 1) (pda_cons (pd_var 2) pda_nil))))))
    (pdss_one (pds_retV 1)))⟩
theorem dg_common_divisor_of_1 (fx : Fx P K mg) : DefG P w K mg base (tab K) 39 "common_divisor_of" 1 (fun ds => ds) f_common_divisor_of := by
  obtain ⟨fd, F, O⟩ := ok_common_divisor_of (P := P) (w := w) (base := base) fx
  exact ⟨_, fd, ["polys"], fx.glo 7, F.kp, conv_pos F rfl (fun _ _ _ _ _ _ us hl => match us, hl with | [_], _ => rfl), O⟩
theorem ok_Poly_eq (fx : Fx P K mg) : ∃ fd, FunD K "__eq__" "Poly.__eq__" (defArgs s_Poly_eq) (defBody s_Poly_eq) (defScope s_Poly_eq) (h_Poly_eq.dv K) [] ((atM "Poly" "__eq__") K) fd ∧ FnOk P w K mg base (L2.CX P w) 1 ((atM "Poly" "__eq__") K) fd ["self", "other"] (spD K (tab K) f_Poly_eq) := by
  obtain ⟨fd, F⟩ := fx.fun_ 24 (d := h_Poly_eq)
  exact ⟨fd, F, fnOk_of F sc_Poly_eq rfl rfl fun cdv A outer s H E hr tk => pdss_one (pds_ret (pd_and' (pd_isC 21 [] [(21, true)] (all_nil) (all_cons (⟨of_decide_eq_true (fx.bool 4), (isi_Poly fx)⟩) all_nil) (fx.free 28) (fx.glo 3) (pd_var 1)) (pd_and' (pd_eqD hr (pd_fld (tbl [(21, 0)]) (tbl_all (all_cons (⟨(cd_Poly fx), rfl⟩) all_nil)) (pd_var 0)) (pd_fld (tbl [(21, 0)]) (tbl_all (all_cons (⟨(cd_Poly fx), rfl⟩) all_nil)) (pd_var 1))) (pd_one (pd_eqS (pd_fld (tbl [(21, 1)]) (tbl_all (all_cons (⟨(cd_Poly fx), rfl⟩) all_nil)) (pd_var 0)) (pd_fld (tbl [(21, 1)]) (tbl_all (all_cons (⟨(cd_Poly fx), rfl⟩) all_nil)) (pd_var 1)))))))⟩
theorem mo_Poly_eq_2 (fx : Fx P K mg) : MethOk P w K mg base (tab K) 1 21 "__eq__" 2 (fun ds => ds) f_Poly_eq := by
  obtain ⟨fd, F, O⟩ := ok_Poly_eq (P := P) (w := w) (base := base) fx
  exact ⟨cd_Poly fx, (by show ("__eq__" : Str) ∉ fls 21; decide), _, fd, ["self", "other"], fx.meth 8, conv_pos F rfl (fun _ _ _ _ _ _ us hl => match us, hl with | [_, _], _ => rfl), O⟩
theorem ok_law (fx : Fx P K mg) {f : Addr} {fd : FuncData} (F : FunD K "law" "law" (defArgs s_law) (defBody s_law) (defScope s_law) [] [] f fd) : FnOk P w K mg base (L2.CX P w) 40 f fd ["_law_script"] (spD K (tab K) f_law) :=
  fnOk_of F sc_law rfl rfl fun cdv A outer s H E hr tk => pdss_cons (pds_set 1 sc_law.nd (pd_callG (dg_law_numbers_2 fx) (hr.mono (by decide)) tk (pda_cons (pd_var 0) (pda_cons pd_int pda_nil))))
    (pdss_cons (pds_frz 1 (pds_set 2 sc_law.nd (pd_callG (dg_law_coefs_3 fx) (hr.mono (by decide)) tk (pda_cons (pd_var 1) (pda_cons pd_int (pda_cons (pd_mod (pd_item (pd_var 1) pd_int) pd_int) pda_nil))))))
    (pdss_cons (pds_frz 1 (pds_set 3 sc_law.nd (pd_callG (dg_law_coefs_3 fx) (hr.mono (by decide)) tk (pda_cons (pd_var 1) (pda_cons pd_int (pda_cons (pd_mod (pd_item (pd_var 1) pd_int) pd_int) pda_nil))))))
    (pdss_cons (pds_frz 1 (pds_set 4 sc_law.nd (pd_callG (dg_law_coefs_3 fx) (hr.mono (by decide)) tk (pda_cons (pd_var 1) (pda_cons pd_int (pda_cons (pd_mod (pd_item (pd_var 1) pd_int) pd_int) pda_nil))))))
    (pdss_cons (pds_frz 3 (pds_frz 2 (pds_set 5 sc_law.nd (pd_callG (dg_law_product_2 fx) (hr.mono (by decide)) tk (pda_cons (pd_var 2) (pda_cons (pd_var 3) pda_nil))))))
    (pdss_cons (pds_frz 4 (pds_frz 2 (pds_set 6 sc_law.nd (pd_callG (dg_law_product_2 fx) (hr.mono (by decide)) tk (pda_cons (pd_var 2) (pda_cons (pd_var 4) pda_nil))))))
    (pdss_cons (pds_if (pdt_of (pdw_or (pdt_eqS (pd_mod (pd_item (pd_var 1) pd_int) pd_int) pd_int) (pdw_or1 (pdt_eqS (pd_mod (pd_item (pd_var 1) pd_int) pd_int) pd_int))))
    (pdss_one (pds_set 5 sc_law.nd (pd_lst pda_nil)))
    pdss_nil)
    (pdss_cons (pds_if (pdt_of (pdw_or (pdt_eqS (pd_mod (pd_item (pd_var 1) pd_int) pd_int) pd_int) (pdw_or1 (pdt_eqS (pd_mod (pd_item (pd_var 1) pd_int) pd_int) pd_int))))
    (pdss_one (pds_set 6 sc_law.nd (pd_lst pda_nil)))
    pdss_nil)
    (pdss_cons (pds_set 7 sc_law.nd (pd_add (pd_mod (pd_item (pd_var 1) pd_int) pd_int) pd_int))
    (pdss_cons (pds_set 8 sc_law.nd (pd_add (pd_mod (pd_div (dv_fn fx.1 (fx.bool 0) sc_law hr (by decide)) (pd_item (pd_var 1) pd_int) pd_int) pd_int) pd_int))
    (pdss_cons (pds_set 9 sc_law.nd (pd_bor 5 (pd_callCG (cg_Poly_2 fx) (hr.mono (by decide)) tk (pda_cons (pd_var 5) (pda_cons (pd_var 7) pda_nil)))))
    (pdss_cons (pds_set 10 sc_law.nd (pd_bor 6 (pd_callCG (cg_Poly_2 fx) (hr.mono (by decide)) tk (pda_cons (pd_var 6) (pda_cons (pd_var 8) pda_nil)))))
    (pdss_cons (pds_if (pdt_bor 6 (pdt_bor 5 (pdt_not (pdt_tru (pd_callG (dg_law_is_divisor_3 fx) (hr.mono (by decide)) tk (pda_cons (pd_callG (dg_common_divisor_2 fx) (hr.mono (by decide)) tk (pda_cons (pd_var 9) (pda_cons (pd_var 10) pda_nil))) (pda_cons (pd_var 5) (pda_cons (pd_var 6) pda_nil))))))))
    (pdss_one (pds_ret pd_bl))
    pdss_nil)
    (pdss_cons (pds_if (pdt_bor 6 (pdt_bor 5 (pdt_not (pdt_tru (pd_callG (dg_law_is_divisor_3 fx) (hr.mono (by decide)) tk (pda_cons (pd_callG (dg_common_divisor_of_1 fx) (hr.mono (by decide)) tk (pda_cons (pd_lst (pda_cons (pd_var 10) (pda_cons (pd_var 9) pda_nil))) pda_nil)) (pda_cons (pd_var 5) (pda_cons (pd_var 6) pda_nil))))))))
    (pdss_one (pds_ret pd_bl))
    pdss_nil)
    (pdss_cons (pds_if (pdt_bor 5 (pdt_of (pdw_or (pdt_not (pdt_tru (pd_callG (dg_law_is_divisor_3 fx) (hr.mono (by decide)) tk (pda_cons (pd_callG (dg_common_divisor_of_1 fx) (hr.mono (by decide)) tk (pda_cons (pd_lst (pda_cons (pd_var 9) pda_nil)) pda_nil)) (pda_cons (pd_var 5) (pda_cons (pd_lst pda_nil) pda_nil)))))) (pdw_or1 (pdt_not (pdt_tru (pd_callG (dg_law_is_divisor_3 fx) (hr.mono (by decide)) tk (pda_cons (pd_callG (dg_common_divisor_of_1 fx) (hr.mono (by decide)) tk (pda_cons (pd_lst pda_nil) pda_nil)) (pda_cons (pd_lst pda_nil) (pda_cons (pd_lst pda_nil) pda_nil))))))))))
    (pdss_one (pds_ret pd_bl))
    pdss_nil)
    (pdss_cons (pds_set 11 sc_law.nd (pd_lst (pda_cons (pd_callCG (cg_Poly_1 fx) (hr.mono (by decide)) tk (pda_cons (pd_lst pda_nil) pda_nil)) (pda_cons (pd_var 9) (pda_cons (pd_var 10) (pda_cons (pd_var 9) pda_nil))))))
    (pdss_cons (pds_set 12 sc_law.nd (pd_bor 11 (pd_callG (dg_common_divisor_of_1 fx) (hr.mono (by decide)) tk (pda_cons (pd_var 11) pda_nil))))
    (pdss_cons (pds_if (pdt_bor 6 (pdt_bor 5 (pdt_of (pdw_or (pdt_not (pdt_tru (pd_callG (dg_law_is_divisor_3 fx) (hr.mono (by decide)) tk (pda_cons (pd_var 12) (pda_cons (pd_var 5) (pda_cons (pd_var 6) pda_nil)))))) (pdw_or1 (pdt_NeI (k := 1) (meths_cons ((mo_Poly_eq_2 fx).mono (by decide)) meths_nil) (hr.mono (by decide)) (tbl_all (all_cons (isi_Poly fx) all_nil)) (pd_var 11) (pd_lst (pda_cons (pd_callCG (cg_Poly_1 fx) (hr.mono (by decide)) tk (pda_cons (pd_lst pda_nil) pda_nil)) (pda_cons (pd_var 9) (pda_cons (pd_var 10) (pda_cons (pd_var 9) pda_nil)))))))))))
    (pdss_one (pds_ret pd_bl))
    pdss_nil)
    (pdss_cons (pds_set 13 sc_law.nd pd_int)
    (pdss_cons (pds_if (pdt_bor 5 (pdt_gt (pd_len (fx.free 10) (pd_callG (dg_law_trimmed_1 fx) (hr.mono (by decide)) tk (pda_cons (pd_var 5) pda_nil))) pd_int))
    (pdss_one (pds_set 13 sc_law.nd (pd_bor 5 (pd_item (pd_callG (dg_law_trimmed_1 fx) (hr.mono (by decide)) tk (pda_cons (pd_var 5) pda_nil)) (pd_neg pd_int)))))
    pdss_nil)
    (pdss_cons (pds_if (pdt_bor 5 (pdt_not (pdt_tru (pd_callG (dg_law_poly_is_3 fx) (hr.mono (by decide)) tk (pda_cons (pd_callG (dg_monic_1 fx) (hr.mono (by decide)) tk (pda_cons (pd_var 9) pda_nil)) (pda_cons (pd_var 5) (pda_cons (pd_var 13) pda_nil)))))))
    (pdss_one (pds_ret pd_bl))
    pdss_nil)
    (pdss_one (pds_ret (pd_bor 6 (pd_bor 5 (pd_and' (pd_callG (dg_law_poly_is_3 fx) (hr.mono (by decide)) tk (pda_cons (pd_var 9) (pda_cons (pd_var 5) (pda_cons (pd_var 7) pda_nil)))) (pd_one (pd_callG (dg_law_poly_is_3 fx) (hr.mono (by decide)) tk (pda_cons (pd_var 10) (pda_cons (pd_var 6) (pda_cons (pd_var 8) pda_nil))))))))))))))))))))))))))))))
end
abbrev Rw : PySem.W.OpenRow := PySem.W.OpenLaw.row PySem.Challenge.rw_certsums_k11_common_divisor
abbrev hk : PySem.W.Hook := hookQ 5 fas fns (fun K => bls.all fun b => b K)
def ob (s : PySem.W.SharedT) : AlP := seeQ 5 fas fns (fun K => bls.all fun b => b K) (HandSHeadRun.getT s)
theorem ob_eq (s : PySem.W.SharedT) : ob s = hk.obs s.abs := seeQ_eq (HandSHeadRun.getT_eq s)
theorem run (w : World) : HandSHeadRun.RunEqI Rw (PySem.W.view Rw.prog [0, 30]) hk ob 20000 ["_wall", "__name__", "SummationError", "DivisionByZero", "ZeroPolynomial", "Fraction", "trimmed", "content", "Poly", "divide", "monic", "primitive", "common_divisor", "common_divisor_of", "_law_numbers", "_law_is_integer", "_law_divisor", "_law_poly_is", "_law_coefs", "_law_product", "_law_trimmed", "_law_rest", "_law_reduced", "_law_degree", "_law_is_divisor"] w := by
  unfold HandSHeadRun.RunEqI
  kernel_rfl
end G
set_option maxHeartbeats 2000000
namespace Pd
open PySem PySem.Spec L2
abbrev EV (f : FE) (ρ : PEnv) (r : Rs) : Prop := f ρ = some (.ok r)
abbrev TV (t : FT) (ρ : PEnv) (b : Bool) : Prop := t ρ = some (.ok b)
abbrev AV (a : FA) (ρ : PEnv) (ds : List Dt) : Prop := a ρ = some (.ok ds)
abbrev IV (g : FIt) (ρ : PEnv) (ds : List Dt) : Prop := g ρ = some (.ok ds)
abbrev OV (o : FO) (ρ : PEnv) (i : Option Int) : Prop := o ρ = some (.ok i)
inductive Kd where
  | own | bor | fro
def kR : Kd → List Dt → Rs
  | .own, ds => .own ds
  | .bor, ds => .bor ds
  | .fro, ds => .fro (.lst ds)
def kC : Kd → List Dt → Cel
  | .own, ds => .own ds
  | .bor, ds => .own ds
  | .fro, ds => .fro (.lst ds)
def kV : Kd → Kd
  | .own => .bor
  | .bor => .bor
  | .fro => .fro
theorem kR_asL (k : Kd) (ds : List Dt) : asL (kR k ds) = some ds := by cases k <;> rfl
abbrev qI (i : Int) : Dt := .int i
abbrev qB (b : Bool) : Dt := .bl b
abbrev qS (s : Str) : Dt := .str s
abbrev qN (_ : Unit) : Dt := .non
section
variable {α β γ δ : Type}
abbrev qL (e : α → Dt) (xs : List α) : Dt := .lst (xs.map e)
abbrev qV (e : α → Dt) (xs : List α) : Dt := .tup (xs.map e)
def qO (e : α → Dt) : Option α → Dt
  | none => .non
  | some a => e a
abbrev qT1 (e : α → Dt) (p : α) : Dt := .tup [e p]
abbrev qT2 (e : α → Dt) (f : β → Dt) (p : α × β) : Dt := .tup [e p.1, f p.2]
abbrev qT3 (e : α → Dt) (f : β → Dt) (g : γ → Dt) (p : α × β × γ) : Dt := .tup [e p.1, f p.2.1, g p.2.2]
abbrev qT4 (e : α → Dt) (f : β → Dt) (g : γ → Dt) (h : δ → Dt) (p : α × β × γ × δ) : Dt := .tup [e p.1, f p.2.1, g p.2.2.1, h p.2.2.2]
end
section
variable {α β : Type}
def gt [Inhabited α] (xs : List α) (i : Int) : α := (atI xs i).getD default
def inR (xs : List α) (i : Int) : Prop := -(xs.length : Int) ≤ i ∧ i < xs.length
def cutT (xs : List α) (lo hi : Option Int) : List α := (xs.drop (HT.sIx xs.length 0 lo)).take (HT.sIx xs.length xs.length hi - HT.sIx xs.length 0 lo)
def setT (xs : List α) (i : Int) (x : α) : List α := match ixN xs.length i with
  | some j => xs.set j x
  | none => xs
def rngN (a : Int) : Nat → List Int
  | 0 => []
  | n + 1 => a :: rngN (a + 1) n
abbrev rngT (a b : Int) : List Int := rngN a (b - a).toNat
def rngD (a : Int) : Nat → List Int
  | 0 => []
  | n + 1 => a :: rngD (a + -1) n
abbrev rngDT (a b : Int) : List Int := rngD a (a - b).toNat
theorem rngN_map (a : Int) (n : Nat) : (rngN a n).map qI = intsFrom a n := by
  induction n generalizing a with
  | zero => rfl
  | succ n ih => show _ :: _ = _ :: _; rw [ih]
theorem rngD_map (a : Int) (n : Nat) : (rngD a n).map qI = intsBy a (-1) n := by
  induction n generalizing a with
  | zero => rfl
  | succ n ih => show _ :: _ = _ :: _; rw [ih]
theorem inR_ix {xs : List α} {i : Int} (h : inR xs i) : ∃ j, ixN xs.length i = some j ∧ j < xs.length := by
  unfold inR at h
  unfold ixN
  by_cases h0 : 0 ≤ i
  · rw [if_pos h0, if_pos (by omega)]
    exact ⟨_, rfl, by omega⟩
  · rw [if_neg h0, if_pos (by omega)]
    exact ⟨_, rfl, by omega⟩
theorem at_map [Inhabited α] (e : α → Dt) {xs : List α} {i : Int} (h : inR xs i) : atI (xs.map e) i = some (e (gt xs i)) := by
  obtain ⟨j, h1, h2⟩ := inR_ix h
  unfold gt atI
  rw [List.length_map, h1]
  show (xs.map e)[j]? = some (e ((xs[j]?).getD default))
  rw [List.getElem?_map, List.getElem?_eq_getElem h2]
  rfl
theorem cut_map (e : α → Dt) (xs : List α) (lo hi : Option Int) : cutD (xs.map e) lo hi = (cutT xs lo hi).map e := by
  unfold cutD cutT
  rw [List.length_map, List.map_take, List.map_drop]
end
section
variable {f g h : FE} {t u : FT} {ρ : PEnv} {x y z r : Rs} {a b p q : Bool} {i j : Int} {d : Dt} {ds es : List Dt} {n m : Nat} {α β : Type}
theorem ev_c : EV (eC d) ρ (.fro d) := rfl
theorem ev_fro (h : ρ[n]? = some (some (.fro d)) := by rfl) : EV (eVar n) ρ (.fro d) := by unfold EV eVar; rw [h]
theorem ev_own (h : ρ[n]? = some (some (.own ds)) := by rfl) : EV (eVar n) ρ (.bor ds) := by unfold EV eVar; rw [h]
theorem ev_mix {k : Kd} (h : ρ[n]? = some (some (kC k ds)) := by rfl) : EV (eVar n) ρ (kR (kV k) ds) := by unfold EV eVar; rw [h]; cases k <;> rfl
theorem ev_e2 {gg : G2} (hf : EV f ρ x) (hg : EV g ρ y) (hh : gg x y = some (.ok z)) : EV (e2 gg f g) ρ z := by
  show bnd (f ρ) _ = _
  rw [hf, bnd_ok, hg, bnd_ok, hh]
theorem ev_e1 {gg : G1} (hf : EV f ρ x) (hh : gg x = some (.ok z)) : EV (e1 gg f) ρ z := by
  show bnd (f ρ) _ = _
  rw [hf, bnd_ok, hh]
theorem g_mul (hm : mulOk i j = true) : gMul (.fro (.int i)) (.fro (.int j)) = some (.ok (.fro (.int (i * j)))) := by
  rw [gMul_eq, hm]; rfl
theorem g_div (h0 : j ≠ 0) : gDiv (.fro (.int i)) (.fro (.int j)) = some (.ok (.fro (.int (i.fdiv j)))) := by
  rw [gDiv_eq, divOk_ne h0]; rfl
theorem g_mod (hm : j ≠ 0) : gMod (.fro (.int i)) (.fro (.int j)) = some (.ok (.fro (.int (i.fmod j)))) := by
  rw [gMod_eq, modOk_of hm]; rfl
theorem g_powl {k : Int} (hm : powOk i j = true) (e : i ^ j.toNat = k) : gPow (.fro (.int i)) (.fro (.int j)) = some (.ok (.fro (.int k))) := by
  rw [gPow_eq, hm, e]; rfl
theorem g_max : gMax (.fro (.int i)) (.fro (.int j)) = some (.ok (.fro (.int (max i j)))) := by
  rw [gMax_eq, Int.max_def]
  by_cases h1 : i < j
  · rw [if_pos h1, if_pos (by omega)]
  · rw [if_neg h1]
    by_cases h2 : i ≤ j
    · rw [if_pos h2, show i = j by omega]
    · rw [if_neg h2]
theorem g_abs : gAbs (.fro (.int i)) = some (.ok (.fro (.int (i.natAbs : Nat)))) := by
  show some (Ex.ok (Rs.fro (.int (if i < 0 then -i else i)))) = _
  have : (if i < 0 then -i else i) = (i.natAbs : Int) := by split <;> omega
  rw [this]
theorem g_gcd : gGcd (.fro (.int i)) (.fro (.int j)) = some (.ok (.fro (.int (Int.gcd i j : Nat)))) := rfl
theorem g_len {k : Kd} {e : α → Dt} {xs : List α} : gLen (kR k (xs.map e)) = some (.ok (.fro (.int xs.length))) := by
  cases k <;> simp [kR]
theorem g_lenV {e : α → Dt} {xs : List α} : gLen (.fro (.tup (xs.map e))) = some (.ok (.fro (.int xs.length))) := by simp
theorem g_list {k : Kd} : gList (kR k ds) = some (.ok (.own ds)) := by cases k <;> rfl
theorem g_tuple {k : Kd} : gTuple (kR k ds) = some (.ok (.fro (.tup ds))) := by cases k <;> rfl
theorem g_ix [Inhabited α] {k : Kd} {e : α → Dt} {xs : List α} (hi : inR xs i) : gIx (kR k (xs.map e)) (.fro (.int i)) = some (.ok (.fro (e (gt xs i)))) := by
  have := at_map e hi
  cases k
  · show (match atI (xs.map e) i with | some d => some (Ex.ok (Rs.fro d)) | none => none) = _
    rw [this]
  · simp [kR, this]
  · simp [kR, this]
theorem g_ixV [Inhabited α] {e : α → Dt} {xs : List α} (hi : inR xs i) : gIx (.fro (.tup (xs.map e))) (.fro (.int i)) = some (.ok (.fro (e (gt xs i)))) := by
  simp [at_map e hi]
theorem g_eqI : gEqS (.fro (.int i)) (.fro (.int j)) = some (.ok (.fro (.bl (decide (i = j))))) := gEqS_int ..
theorem g_neI : gNeS (.fro (.int i)) (.fro (.int j)) = some (.ok (.fro (.bl (!decide (i = j))))) := gNeS_int ..
theorem g_cat {k l : Kd} {e : α → Dt} {xs ys : List α} (h : xs.length + ys.length ≤ LINE) : gCat (kR k (xs.map e)) (kR l (ys.map e)) = some (.ok (.own ((xs ++ ys).map e))) := by
  unfold gCat
  rw [kR_asL, kR_asL]
  dsimp only
  rw [if_pos (by rw [List.length_map, List.length_map]; exact h), List.map_append]
theorem tv_b (hf : EV f ρ (.fro (.bl b))) : TV (tB f) ρ b := by
  show bnd (f ρ) _ = _
  rw [hf]; rfl
theorem tv_tru (hf : EV f ρ r) (hh : tru r = some (.ok b)) : TV (tTru f) ρ b := by
  show bnd (f ρ) _ = _
  rw [hf, bnd_ok, hh]
theorem tv_not (ht : TV t ρ a) : TV (tNot t) ρ (!a) := by
  show bnd (t ρ) _ = _
  rw [ht]; rfl
theorem tv_and (ht : TV t ρ a) (hu : a = true → TV u ρ b) : TV (tAnd t u) ρ (a && b) := by
  show bnd (t ρ) _ = _
  rw [ht, bnd_ok]
  cases a with
  | true => rw [if_pos rfl, hu rfl]; rfl
  | false => rfl
theorem tv_or (ht : TV t ρ a) (hu : a = false → TV u ρ b) : TV (tOr t u) ρ (a || b) := by
  show bnd (t ρ) _ = _
  rw [ht, bnd_ok]
  cases a with
  | true => rfl
  | false => rw [if_neg Bool.false_ne_true, hu rfl]; rfl
theorem ev_and (hf : EV f ρ (.fro (.bl a))) (hg : a = true → EV g ρ (.fro (.bl b))) : EV (eAnd f g) ρ (.fro (.bl (a && b))) := by
  show bnd (f ρ) _ = _
  rw [hf, bnd_ok, asB_bl, bnd_ok]
  cases a with
  | true => rw [if_pos rfl, hg rfl]; rfl
  | false => rfl
theorem ev_not (hf : EV f ρ (.fro (.bl a))) : EV (eNot f) ρ (.fro (.bl (!a))) := by
  show bnd (f ρ) _ = _
  rw [hf]; rfl
theorem av_nil : AV aNil ρ [] := rfl
theorem av_cons {fs : FA} (hf : EV f ρ r) (hz : frz r = some (.ok d)) (ht : AV fs ρ ds) : AV (aCons f fs) ρ (d :: ds) := by
  show bnd (f ρ) _ = _
  rw [hf, bnd_ok, hz, bnd_ok, ht]; rfl
theorem fz_k {k : Kd} (hk : k ≠ .bor) : frz (kR k ds) = some (.ok (.lst ds)) := by cases k <;> first | rfl | exact absurd rfl hk
theorem ev_call {fn : Fn} {fa : FA} (hF : fn ds = some (.ok r)) (ha : AV fa ρ ds) (hl : ds.length = n := by rfl) : EV (eCa n fn fa) ρ r := (eCa_run ha hl).trans hF
theorem ev_meth {o : Dt} {c : Nat} {fn : Fn} {gD : List Dt → List Dt} {ms : Nat → Option Fn} {fo : FE} {fa : FA} (hF : fn (gD (o :: es)) = some (.ok r)) (ho : EV fo ρ (.fro o)) (ha : AV fa ρ es) (hx : o = .ins c ds) (hm : ms c = some (mfn n gD fn)) (hl : es.length + 1 = n) : EV (eMe ms fo fa) ρ r := by
  subst hx
  show bnd (fo ρ) _ = _
  have hp : pickM ms (.fro (.ins c ds)) = some (c, ds, mfn n gD fn) := by
    unfold pickM; dsimp only; rw [hm]
  rw [ho, bnd_ok, hp]
  show bnd (fa ρ) _ = _
  rw [ha, bnd_ok]
  unfold mfn
  rw [if_pos (by rw [List.length_cons]; exact hl), hF]
theorem g_fld {c k : Nat} {mm : Nat → Option Nat} (h1 : mm c = some k) (h2 : ds[k]? = some d) : gFld mm (.fro (.ins c ds)) = some (.ok (.fro d)) := by
  unfold gFld; dsimp only; rw [h1]; dsimp only; rw [h2]
theorem g_attF {c k : Nat} {mm : Nat → Option Nat} {pr : Nat → Option Fn} (h1 : mm c = some k) (h2 : ds[k]? = some d) : gAtt mm pr (.fro (.ins c ds)) = some (.ok (.fro d)) := by
  unfold gAtt; dsimp only; rw [h1]; dsimp only; rw [h2]
theorem g_attP {x : Dt} {c : Nat} {mm : Nat → Option Nat} {pr : Nat → Option Fn} {fn : Fn} (hF : fn [x] = some (.ok r)) (hx : x = .ins c ds) (h1 : mm c = none) (h2 : pr c = some fn) : gAtt mm pr (.fro x) = some (.ok r) := by
  subst hx
  unfold gAtt; dsimp only; rw [h1]; dsimp only; rw [h2]; dsimp only; rw [hF]; rfl
theorem ev_tup {fs : FA} (ha : AV fs ρ ds) (hl : ds.length ≤ LINE := by decide) : EV (eTup fs) ρ (.fro (.tup ds)) := by
  show bnd (fs ρ) _ = _
  rw [ha, bnd_ok, if_pos hl]
theorem ev_lst {fs : FA} (ha : AV fs ρ ds) (hl : ds.length ≤ LINE := by decide) : EV (eLst fs) ρ (.own ds) := by
  show bnd (fs ρ) _ = _
  rw [ha, bnd_ok, if_pos hl]
theorem ov_none : OV oNone ρ none := rfl
theorem ov_some (hf : EV f ρ (.fro (.int i))) : OV (oSome f) ρ (some i) := by
  show bnd (f ρ) _ = _
  rw [hf]; rfl
theorem ev_sl {k : Kd} {e : α → Dt} {xs : List α} {lo hi : FO} {l m : Option Int} (hf : EV f ρ (kR k (xs.map e))) (h1 : OV lo ρ l) (h2 : OV hi ρ m) : EV (eSl f lo hi) ρ (.own ((cutT xs l m).map e)) := by
  show bnd (f ρ) _ = _
  rw [hf, bnd_ok, h1, bnd_ok, h2, bnd_ok, ← cut_map]
  cases k <;> rfl
theorem iv_k {k : Kd} (hf : EV f ρ (kR k ds)) (hk : k ≠ .bor) : IV (iSeq f) ρ ds := by
  show bnd (f ρ) _ = _
  rw [hf, bnd_ok, fz_k hk]; rfl
theorem iv_v (hf : EV f ρ (.fro (.tup ds))) : IV (iSeq f) ρ ds := by
  show bnd (f ρ) _ = _
  rw [hf]; rfl
theorem iv_r1 (hf : EV f ρ (.fro (.int i))) (hr : rOk i = true) : IV (iRng1 f) ρ ((rngT 0 i).map qI) := by
  rw [rngN_map]
  have := rng1_run hf hr
  rw [show (i - 0) = i by omega]
  exact this
theorem iv_rD (hf : EV f ρ (.fro (.int i))) (hg : EV g ρ (.fro (.int j))) (hr : rOk i = true) (hs : rOk j = true) : IV (iRngD f g) ρ ((rngDT i j).map qI) := by
  rw [rngD_map]
  exact rngD_run hf hg hr hs
theorem lcD_map' {ρ : PEnv} {gg : GT} {ct : FT} {elt : FE} {e : α → Dt} {e' : β → Dt} {pp : α → Bool} {F : α → β} : ∀ {xs : List α}, (∀ v, v ∈ xs → ∃ ρ1, gg (e v) ρ = some ρ1 ∧ TV ct ρ1 (pp v) ∧ (pp v = true → ∃ w, EV elt ρ1 w ∧ frz w = some (.ok (e' (F v))))) → lcD gg ct elt ρ (xs.map e) = some (((xs.filter pp).map F).map e')
  | [], _ => rfl
  | v :: xs, hh => by
    obtain ⟨ρ1, h1, h2, h3⟩ := hh v List.mem_cons_self
    have ih := lcD_map' (gg := gg) (ct := ct) (elt := elt) (e := e) (e' := e') (pp := pp) (F := F) (ρ := ρ) (xs := xs) fun w hw => hh w (List.mem_cons_of_mem _ hw)
    rw [List.map_cons]
    unfold lcD
    rw [h1]
    dsimp only
    rw [h2]
    cases hp : pp v with
    | true =>
      obtain ⟨w, h4, h5⟩ := h3 hp
      dsimp only
      rw [h4, bnd_ok, h5]
      dsimp only
      rw [ih, List.filter_cons_of_pos hp]
      rfl
    | false =>
      dsimp only
      rw [List.filter_cons_of_neg (by rw [hp]; exact Bool.false_ne_true)]
      exact ih
theorem ev_lcf {vs : List Nat} {it : FIt} {gg : GT} {ct : FT} {elt : FE} {e : α → Dt} {e' : β → Dt} {pp : α → Bool} {F : α → β} {xs : List α} (hg : IV it ρ (xs.map e)) (hl : xs.length ≤ LINE)
    (hh : ∀ v, v ∈ xs → ∃ ρ1, gg (e v) (wipeE ρ vs) = some ρ1 ∧ TV ct ρ1 (pp v) ∧ (pp v = true → ∃ w, EV elt ρ1 w ∧ frz w = some (.ok (e' (F v))))) : EV (eLc vs it gg ct elt) ρ (.own (((xs.filter pp).map F).map e')) := by
  show bnd (it ρ) _ = _
  rw [hg, bnd_ok, lcD_map' hh]
  exact if_pos (by rw [List.length_map]; exact hl)
theorem ev_lc {vs : List Nat} {it : FIt} {gg : GT} {elt : FE} {e : α → Dt} {e' : β → Dt} {F : α → β} {xs : List α} (hg : IV it ρ (xs.map e)) (hl : xs.length ≤ LINE)
    (hh : ∀ v, v ∈ xs → ∃ ρ1 w, gg (e v) (wipeE ρ vs) = some ρ1 ∧ EV elt ρ1 w ∧ frz w = some (.ok (e' (F v)))) : EV (eLc vs it gg tTrue elt) ρ (.own ((xs.map F).map e')) := by
  have := ev_lcf (pp := fun _ => true) (ct := tTrue) (vs := vs) (it := it) (gg := gg) (elt := elt) (e' := e') (F := F) hg hl fun v hv => by
    obtain ⟨ρ1, w, h1, h2, h3⟩ := hh v hv
    exact ⟨ρ1, h1, rfl, fun _ => ⟨w, h2, h3⟩⟩
  rwa [List.filter_eq_self.mpr fun _ _ => rfl] at this
end
inductive Fl (σ τ β : Type) where
  | nx (s : σ) | bk (s : τ) | ct (s : τ) | rt (r : β)
section
variable {σ τ σ' β : Type}
def RtOk (o : Option Out) (R : β → Rs → Prop) (q : β) : Prop := ∃ x, o = some (.rt x) ∧ R q x
def NxOk (o : Option Out) (E : σ → PEnv → Prop) (q : σ) : Prop := ∃ ρ', o = some (.nx ρ') ∧ E q ρ'
def FlOk (o : Option Out) (E : σ → PEnv → Prop) (B : τ → PEnv → Prop) (R : β → Rs → Prop) : Fl σ τ β → Prop
  | .nx s => ∃ ρ', o = some (.nx ρ') ∧ E s ρ'
  | .bk s => ∃ ρ', o = some (.bk ρ') ∧ B s ρ'
  | .ct s => ∃ ρ', o = some (.ct ρ') ∧ B s ρ'
  | .rt r => ∃ x, o = some (.rt x) ∧ R r x
def Fl.fin (q : Fl σ Empty β) (k : σ → β) : β := match q with
  | .nx s => k s
  | .rt r => r
def Fl.bind (q : Fl σ τ β) (k : σ → Fl σ' τ β) : Fl σ' τ β := match q with
  | .nx s => k s
  | .bk s => .bk s
  | .ct s => .ct s
  | .rt r => .rt r
@[simp] theorem Fl.fin_nx (s : σ) (k : σ → β) : (Fl.nx s : Fl σ Empty β).fin k = k s := rfl
@[simp] theorem Fl.fin_rt (r : β) (k : σ → β) : (Fl.rt r : Fl σ Empty β).fin k = r := rfl
@[simp] theorem Fl.bind_nx (s : σ) (k : σ → Fl σ' τ β) : (Fl.nx s).bind k = k s := rfl
@[simp] theorem Fl.bind_bk (s : τ) (k : σ → Fl σ' τ β) : (Fl.bk s : Fl σ τ β).bind k = .bk s := rfl
@[simp] theorem Fl.bind_ct (s : τ) (k : σ → Fl σ' τ β) : (Fl.ct s : Fl σ τ β).bind k = .ct s := rfl
@[simp] theorem Fl.bind_rt (r : β) (k : σ → Fl σ' τ β) : (Fl.rt r : Fl σ τ β).bind k = .rt r := rfl
variable {o o' : Option Out} {E : σ → PEnv → Prop} {E' : σ' → PEnv → Prop} {B : τ → PEnv → Prop} {R : β → Rs → Prop} {F G H : FS} {ρ ρ' : PEnv} {t : FT} {b : Bool}
theorem RtOk.of {q : β} (e : o = o') (h : RtOk o' R q) : RtOk o R q := e ▸ h
theorem NxOk.of {q : σ} (e : o = o') (h : NxOk o' E q) : NxOk o E q := e ▸ h
theorem FlOk.of {q : Fl σ τ β} (e : o = o') (h : FlOk o' E B R q) : FlOk o E B R q := e ▸ h
theorem NxOk.fl {q : σ} (h : NxOk o E q) : FlOk o E B R (.nx q) := let ⟨r, a, b⟩ := h; ⟨r, a, b⟩
theorem RtOk.fl {q : β} (h : RtOk o R q) : FlOk o E B R (.rt q) := h
theorem NxOk.imp {q : σ} {E2 : σ → PEnv → Prop} (h : NxOk o E q) (i : ∀ s ρ, E s ρ → E2 s ρ) : NxOk o E2 q := let ⟨r, a, b⟩ := h; ⟨r, a, i _ _ b⟩
theorem RtOk.imp {q : β} {R2 : β → Rs → Prop} (h : RtOk o R q) (i : ∀ s x, R s x → R2 s x) : RtOk o R2 q := let ⟨r, a, b⟩ := h; ⟨r, a, i _ _ b⟩
theorem FlOk.imp {q : Fl σ τ β} {E2 : σ → PEnv → Prop} {B2 : τ → PEnv → Prop} {R2 : β → Rs → Prop} (h : FlOk o E B R q) (i : ∀ s ρ, E s ρ → E2 s ρ) (j : ∀ s ρ, B s ρ → B2 s ρ) (l : ∀ s x, R s x → R2 s x) : FlOk o E2 B2 R2 q := by
  cases q with
  | nx s => obtain ⟨r, a, b⟩ := h; exact ⟨r, a, i _ _ b⟩
  | bk s => obtain ⟨r, a, b⟩ := h; exact ⟨r, a, j _ _ b⟩
  | ct s => obtain ⟨r, a, b⟩ := h; exact ⟨r, a, j _ _ b⟩
  | rt s => obtain ⟨r, a, b⟩ := h; exact ⟨r, a, l _ _ b⟩
theorem sq_nx (h : F ρ = some (.nx ρ')) : sSeq F G ρ = G ρ' := sSeq_nx h
theorem st_set {n : Nat} {f : FE} {r : Rs} {c : Cel} (h : EV f ρ r) (hc : celOf r = some c) (hρ : ρ.set n (some c) = ρ') : sSet n f ρ = some (.nx ρ') := by
  rw [sSet_run h hc, hρ]
theorem st_app {n : Nat} {f : FE} {r : Rs} {ds : List Dt} {d : Dt} (h0 : ρ[n]? = some (some (.own ds))) (h : EV f ρ r) (hz : frz r = some (.ok d)) (hl : ds.length < LINE) (hρ : ρ.set n (some (.own (ds ++ [d]))) = ρ') : sApp n f ρ = some (.nx ρ') := by
  unfold sApp
  rw [h0]
  dsimp only
  rw [h, bndS_ok, hz, bndS_ok, if_pos hl, hρ]
theorem st_ix {n : Nat} {α : Type} {e : α → Dt} {fk f : FE} {r : Rs} {xs : List α} {x : α} {i : Int} (h0 : ρ[n]? = some (some (.own (xs.map e)))) (h : EV f ρ r) (hz : frz r = some (.ok (e x))) (hk : EV fk ρ (.fro (.int i))) (hi : inR xs i) (hρ : ρ.set n (some (.own ((setT xs i x).map e))) = ρ') : sSetIx n fk f ρ = some (.nx ρ') := by
  obtain ⟨j, h1, h2⟩ := inR_ix hi
  unfold sSetIx
  rw [h0]
  dsimp only
  rw [h, bndS_ok, hz, bndS_ok, hk, bndS_ok, asI_int, bndS_ok, List.length_map, h1, ← hρ]
  unfold setT
  rw [h1, List.map_set]
theorem st_aug {n : Nat} {gg : G2} {f : FE} {d : Dt} {r y : Rs} {c : Cel} (h0 : ρ[n]? = some (some (.fro d))) (h : EV f ρ r) (h1 : gg (.fro d) r = some (.ok y)) (hc : celOf y = some c) (hρ : ρ.set n (some c) = ρ') : sAug gg n f ρ = some (.nx ρ') := by
  unfold sAug
  rw [h0]
  dsimp only
  rw [h, bndS_ok, h1, bndS_ok, hc, ← hρ]
theorem st_fld {i c j : Nat} {f : FE} {r : Rs} {d : Dt} {ds : List Dt} (h0 : ρ[i]? = some (some (.mk c ds))) (h : EV f ρ r) (hz : frz r = some (.ok d)) (hl : ds.length = j) (hρ : ρ.set i (some (.mk c (ds ++ [d]))) = ρ') : sFld i c j f ρ = some (.nx ρ') := by
  unfold sFld
  rw [h, bndS_ok, hz, bndS_ok, h0]
  dsimp only
  rw [if_pos ⟨rfl, hl⟩, hρ]
theorem fz_own {i : Nat} {ds : List Dt} {o : Option Out} (h0 : ρ[i]? = some (some (.own ds))) (hρ : ρ.set i (some (.fro (.lst ds))) = ρ') (h : F ρ' = o) : sFrz i F ρ = o := by
  unfold sFrz; rw [h0]; dsimp only; rw [hρ, h]
theorem fz_fro {i : Nat} {d : Dt} {o : Option Out} (h0 : ρ[i]? = some (some (.fro d))) (h : F ρ = o) : sFrz i F ρ = o := by
  unfold sFrz; rw [h0]; exact h
theorem fz_mix {i : Nat} {k : Kd} {ds : List Dt} {o : Option Out} (h0 : ρ[i]? = some (some (kC k ds))) (hρ : ρ.set i (some (.fro (.lst ds))) = ρ') (h : F ρ' = o) : sFrz i F ρ = o := by
  cases k with
  | fro =>
    have e : ρ' = ρ := by
      rw [← hρ]
      have hl := (List.getElem?_eq_some_iff.mp h0).1
      have h1 := (List.getElem?_eq_some_iff.mp h0).2
      show ρ.set i (some (kC .fro ds)) = ρ
      rw [← h1]
      exact List.set_getElem_self hl
    exact fz_fro h0 (by rw [← e, h])
  | own => exact fz_own h0 hρ h
  | bor => exact fz_own h0 hρ h
theorem fq_own {i : Nat} {ds : List Dt} (h0 : ρ[i]? = some (some (.own ds))) (hρ : ρ.set i (some (.fro (.lst ds))) = ρ') : sFrz i F ρ = F ρ' := fz_own h0 hρ rfl
theorem sqi_f {t : FT} {F G H : FS} (h : TV t ρ false) : sSeq (sIf t F G) H ρ = sSeq G H ρ := by unfold sSeq; rw [sIf_f h]
theorem sq_of (e : F ρ = H ρ') : sSeq F G ρ = sSeq H G ρ' := by unfold sSeq; rw [e]
theorem rt_ret {f : FE} {r : Rs} {q : β} (h : EV f ρ r) (hR : R q r) (hr : ∀ ds, r ≠ .bor ds) : RtOk (sRet f ρ) R q := by
  refine ⟨r, ?_, hR⟩
  show bndS ρ (f ρ) _ = _
  rw [h, bndS_ok]
  cases r with
  | bor ds => exact absurd rfl (hr ds)
  | fro d => rfl
  | own ds => rfl
theorem rt_retF {i : Nat} {d : Dt} {q : β} (h : ρ[i]? = some (some (.fro d))) (hR : R q (.fro d)) : RtOk (sRetV i ρ) R q := ⟨_, by unfold sRetV; rw [h], hR⟩
theorem rt_retO {i : Nat} {ds : List Dt} {q : β} (h : ρ[i]? = some (some (.own ds))) (hR : R q (.own ds)) : RtOk (sRetV i ρ) R q := ⟨_, by unfold sRetV; rw [h], hR⟩
theorem nx_next {q : σ} (h : E q ρ) : NxOk (sNext ρ) E q := ⟨ρ, rfl, h⟩
theorem nx_st {q : σ} (e : o = some (.nx ρ')) (h : E q ρ') : NxOk o E q := ⟨ρ', e, h⟩
theorem nx_if {x y : σ} (ht : TV t ρ b) (ha : b = true → NxOk (F ρ) E x) (hb : b = false → NxOk (G ρ) E y) : NxOk (sIf t F G ρ) E (if b then x else y) := by
  cases b with
  | true => exact NxOk.of (sIf_t ht) (ha rfl)
  | false => exact NxOk.of (sIf_f ht) (hb rfl)
theorem fl_if {x y : Fl σ τ β} (ht : TV t ρ b) (ha : b = true → FlOk (F ρ) E B R x) (hb : b = false → FlOk (G ρ) E B R y) : FlOk (sIf t F G ρ) E B R (if b then x else y) := by
  cases b with
  | true => exact FlOk.of (sIf_t ht) (ha rfl)
  | false => exact FlOk.of (sIf_f ht) (hb rfl)
theorem rt_sif {x y : β} (ht : TV t ρ b) (ha : b = true → RtOk (sSeq F H ρ) R x) (hb : b = false → RtOk (sSeq G H ρ) R y) : RtOk (sSeq (sIf t F G) H ρ) R (if b then x else y) := by
  cases b with
  | true => exact RtOk.of (sq_of (sIf_t ht)) (ha rfl)
  | false => exact RtOk.of (sq_of (sIf_f ht)) (hb rfl)
theorem fl_sif {x y : Fl σ τ β} (ht : TV t ρ b) (ha : b = true → FlOk (sSeq F H ρ) E B R x) (hb : b = false → FlOk (sSeq G H ρ) E B R y) : FlOk (sSeq (sIf t F G) H ρ) E B R (if b then x else y) := by
  cases b with
  | true => exact FlOk.of (sq_of (sIf_t ht)) (ha rfl)
  | false => exact FlOk.of (sq_of (sIf_f ht)) (hb rfl)
theorem rt_seq {x : β} (h : RtOk (F ρ) R x) : RtOk (sSeq F H ρ) R x := let ⟨r, a, b⟩ := h; ⟨r, sSeq_rt a, b⟩
theorem sq_N {P : Option Out → Prop} {q : σ} (h : NxOk (F ρ) E q) (k : ∀ ρ', E q ρ' → P (H ρ')) : P (sSeq F H ρ) := by
  obtain ⟨ρ', a, b⟩ := h
  rw [sSeq_nx a]
  exact k ρ' b
theorem sq_XR {B0 : Empty → PEnv → Prop} {q : Fl σ Empty β} {k : σ → β} (h : FlOk (F ρ) E B0 R q) (hk : ∀ s ρ', E s ρ' → q = .nx s → RtOk (H ρ') R (k s)) : RtOk (sSeq F H ρ) R (q.fin k) := by
  cases q with
  | nx s =>
    obtain ⟨ρ', a, c⟩ := h
    exact RtOk.of (sSeq_nx a) (hk s ρ' c rfl)
  | bk s => exact nomatch s
  | ct s => exact nomatch s
  | rt r => exact rt_seq h
end
section
variable {σ τ α β : Type} {E : σ → PEnv → Prop} {B : τ → PEnv → Prop} {R : β → Rs → Prop} {body : FS} {gg : GT} {e : α → Dt} {t : FT} {ρ : PEnv}
def forV (V : σ → α → Prop) (f : σ → α → σ) : List α → σ → Prop
  | [], _ => True
  | x :: xs, s => V s x ∧ forV V f xs (f s x)
def forX (f : σ → α → Fl σ σ β) : List α → σ → Fl σ τ β
  | [], s => .nx s
  | x :: xs, s => match f s x with
    | .nx s' => forX f xs s'
    | .ct s' => forX f xs s'
    | .bk s' => .nx s'
    | .rt r => .rt r
def forVX (V : σ → α → Prop) (f : σ → α → Fl σ σ β) : List α → σ → Prop
  | [], _ => True
  | x :: xs, s => V s x ∧ (match f s x with
    | .nx s' => forVX V f xs s'
    | .ct s' => forVX V f xs s'
    | _ => True)
theorem for_N {V : σ → α → Prop} {f : σ → α → σ} (st : ∀ s x ρ, E s ρ → V s x → ∃ ρ1, gg (e x) ρ = some ρ1 ∧ NxOk (body ρ1) E (f s x)) : ∀ (xs : List α) (s : σ) (ρ : PEnv), E s ρ → forV V f xs s → NxOk (forD gg body (xs.map e) ρ) E (xs.foldl f s)
  | [], s, ρ, h, _ => ⟨ρ, rfl, h⟩
  | x :: xs, s, ρ, h, v => by
    obtain ⟨ρ1, h1, ρ2, h2, h3⟩ := st s x ρ h v.1
    refine NxOk.of ?_ (for_N st xs (f s x) ρ2 h3 v.2)
    show (match gg (e x) ρ with | none => none | some ρ1 => _) = _
    rw [h1]
    dsimp only
    rw [h2]
theorem for_X {V : σ → α → Prop} {f : σ → α → Fl σ σ β} (st : ∀ s x ρ, E s ρ → V s x → ∃ ρ1, gg (e x) ρ = some ρ1 ∧ FlOk (body ρ1) E E R (f s x)) : ∀ (xs : List α) (s : σ) (ρ : PEnv), E s ρ → forVX V f xs s → FlOk (forD gg body (xs.map e) ρ) E B R (forX f xs s)
  | [], s, ρ, h, _ => ⟨ρ, rfl, h⟩
  | x :: xs, s, ρ, h, v => by
    obtain ⟨ρ1, h1, h2⟩ := st s x ρ h v.1
    have v2 := v.2
    unfold forX
    generalize f s x = q at h2 v2
    rw [List.map_cons]
    cases q with
    | nx s' =>
      obtain ⟨ρ2, h3, h4⟩ := h2
      refine FlOk.of ?_ (for_X st xs s' ρ2 h4 v2)
      show (match gg (e x) ρ with | none => none | some ρ1 => _) = _
      rw [h1]
      dsimp only
      rw [h3]
    | ct s' =>
      obtain ⟨ρ2, h3, h4⟩ := h2
      refine FlOk.of ?_ (for_X st xs s' ρ2 h4 v2)
      show (match gg (e x) ρ with | none => none | some ρ1 => _) = _
      rw [h1]
      dsimp only
      rw [h3]
    | bk s' =>
      obtain ⟨ρ2, h3, h4⟩ := h2
      refine ⟨ρ2, ?_, h4⟩
      show (match gg (e x) ρ with | none => none | some ρ1 => _) = _
      rw [h1]
      dsimp only
      rw [h3]
    | rt r =>
      obtain ⟨x', h3, h4⟩ := h2
      refine ⟨x', ?_, h4⟩
      show (match gg (e x) ρ with | none => none | some ρ1 => _) = _
      rw [h1]
      dsimp only
      rw [h3]
theorem sfor_eq {it : FIt} {ds : List Dt} (h : IV it ρ ds) : sFor it gg body ρ = forD gg body ds ρ := for_run h
theorem forV_true {f : σ → α → σ} : ∀ (xs : List α) (s : σ), forV (fun _ _ => True) f xs s
  | [], _ => trivial
  | _ :: xs, _ => ⟨trivial, forV_true xs _⟩
def whN (t : σ → Bool) (Vt : σ → Prop) (f : σ → σ) (V : σ → Prop) : Nat → σ → Prop
  | 0, s => Vt s ∧ t s = false
  | n + 1, s => Vt s ∧ t s = true ∧ V s ∧ whN t Vt f V n (f s)
def whV (t : σ → Bool) (Vt : σ → Prop) (f : σ → σ) (V : σ → Prop) (s : σ) : Prop := ∃ n, whN t Vt f V n s
def itN (f : σ → σ) : Nat → σ → σ
  | 0, s => s
  | n + 1, s => itN f n (f s)
def whT (t : σ → Bool) (f : σ → σ) : Nat → σ → Prop
  | 0, s => t s = false
  | n + 1, s => t s = true ∧ whT t f n (f s)
open Classical in
noncomputable def wh (t : σ → Bool) (f : σ → σ) (s : σ) : σ := if h : ∃ n, whT t f n s then itN f (Classical.choose h) s else s
theorem whT_uniq {t : σ → Bool} {f : σ → σ} : ∀ {n m : Nat} {s : σ}, whT t f n s → whT t f m s → n = m
  | 0, 0, _, _, _ => rfl
  | 0, m + 1, s, h, k => by have := k.1; rw [show t s = false from h] at this; cases this
  | n + 1, 0, s, h, k => by have := h.1; rw [show t s = false from k] at this; cases this
  | n + 1, m + 1, s, h, k => by rw [whT_uniq h.2 k.2]
theorem wh_at {t : σ → Bool} {f : σ → σ} {n : Nat} {s : σ} (h : whT t f n s) : wh t f s = itN f n s := by
  unfold wh
  have h' : ∃ n, whT t f n s := ⟨n, h⟩
  rw [dif_pos h', whT_uniq (Classical.choose_spec h') h]
theorem whN_T {t : σ → Bool} {Vt V : σ → Prop} {f : σ → σ} : ∀ {n : Nat} {s : σ}, whN t Vt f V n s → whT t f n s
  | 0, _, h => h.2
  | _ + 1, _, h => ⟨h.2.1, whN_T h.2.2.2⟩
theorem while_go {t' : σ → Bool} {Vt V : σ → Prop} {f : σ → σ} (ht : ∀ s ρ, E s ρ → Vt s → TV t ρ (t' s)) (st : ∀ s ρ, E s ρ → V s → t' s = true → NxOk (body ρ) E (f s)) : ∀ (n : Nat) (s : σ) (ρ : PEnv), E s ρ → whN t' Vt f V n s → ∃ m ρ', whileD t body m ρ = some (.nx ρ') ∧ E (itN f n s) ρ'
  | 0, s, ρ, h, v => ⟨1, ρ, while_end (by have := ht s ρ h v.1; rw [v.2] at this; exact this), h⟩
  | n + 1, s, ρ, h, v => by
    obtain ⟨ρ2, h2, h3⟩ := st s ρ h v.2.2.1 v.2.1
    obtain ⟨m, ρ', h4, h5⟩ := while_go ht st n (f s) ρ2 h3 v.2.2.2
    exact ⟨m + 1, ρ', while_step (by have := ht s ρ h v.1; rw [v.2.1] at this; exact this) h2 h4, h5⟩
theorem while_N {t' : σ → Bool} {Vt V : σ → Prop} {f : σ → σ} (ht : ∀ s ρ, E s ρ → Vt s → TV t ρ (t' s)) (st : ∀ s ρ, E s ρ → V s → t' s = true → NxOk (body ρ) E (f s)) {s : σ} {ρ : PEnv} (h : E s ρ) (v : whV t' Vt f V s) : NxOk (sWhile t body ρ) E (wh t' f s) := by
  obtain ⟨n, v⟩ := v
  obtain ⟨m, ρ', h1, h2⟩ := while_go ht st n s ρ h v
  rw [wh_at (whN_T v)]
  exact ⟨ρ', sWhile_of h1, h2⟩
end
def Kd.of : M Rs → Kd
  | some (.ok (.own _)) => .own
  | _ => .fro
section
variable {β σ : Type} {F : FS} {R : β → Rs → Prop} {args : List Dt}
theorem fn_rt {np nl : Nat} {q : β} (h : RtOk (F (args.map (fun d => some (.fro d)) ++ List.replicate nl none)) R q) (hl : args.length = np := by rfl) : ∃ r, fnD np nl F args = some (.ok r) ∧ R q r := by
  obtain ⟨x, a, b⟩ := h
  exact ⟨x, by rw [fnD_run hl, a]; rfl, b⟩
theorem fn_F {α : Type} {e : α → Dt} {np nl : Nat} {q : α} (h : RtOk (F (args.map (fun d => some (.fro d)) ++ List.replicate nl none)) (fun r x => x = .fro (e r)) q) (hl : args.length = np := by rfl) : fnD np nl F args = some (.ok (.fro (e q))) := by
  obtain ⟨x, a, b⟩ := fn_rt h hl
  rw [a, b]
theorem fn_O {α : Type} {e : α → Dt} {np nl : Nat} {q : List α} (h : RtOk (F (args.map (fun d => some (.fro d)) ++ List.replicate nl none)) (fun r x => x = .own (r.map e)) q) (hl : args.length = np := by rfl) : fnD np nl F args = some (.ok (.own (q.map e))) := by
  obtain ⟨x, a, b⟩ := fn_rt h hl
  rw [a, b]
theorem fn_I {c nf np nl : Nat} {E : σ → PEnv → Prop} {fs : List Dt} {q : σ} (h : NxOk (F (some (.mk c []) :: (args.map (fun d => some (.fro d)) ++ List.replicate nl none))) E q) (he : ∀ ρ, E q ρ → ρ[0]? = some (some (.mk c fs))) (hn : fs.length = nf := by rfl) (hl : args.length = np := by rfl) : mkD c (fnI c nf np nl F) args = some (.ok (.fro (.ins c fs))) := by
  obtain ⟨ρ', a, b⟩ := h
  unfold mkD fnI
  rw [if_pos hl, a]
  unfold outI
  dsimp only
  rw [he ρ' b]
  dsimp only
  rw [if_pos ⟨rfl, hn⟩]
  rfl
end
end Pd
set_option maxHeartbeats 2000000
namespace Pd
open PySem PySem.Spec L2
instance : Inhabited PySem.Str := ⟨⟨#[]⟩⟩
structure Fr where
  num : Int
  den : Int
  deriving Inhabited, DecidableEq
structure Po where
  coefs : List Int
  den : Int
  deriving Inhabited, DecidableEq
structure Po2 where
  rows : List Po
  deriving Inhabited, DecidableEq
structure Qt where
  num : Po
  den : Po
  deriving Inhabited, DecidableEq
structure Tm where
  start : Int
  first : Fr
  ratio : Qt
  deriving Inhabited, DecidableEq
structure Bs where
  weight : Po2
  base : Fr
  choose : Int
  rise : Int
  central : Int
  deriving Inhabited, DecidableEq
structure Opr where
  coefs : List Po
  deriving Inhabited, DecidableEq
structure Rw where
  operator : Opr
  initial : List Fr
  deriving Inhabited, DecidableEq
abbrev qFr (a : Fr) : Dt := .ins 20 [.int a.num, .int a.den]
abbrev qPo (a : Po) : Dt := .ins 21 [qV qI a.coefs, .int a.den]
abbrev qPo2 (a : Po2) : Dt := .ins 22 [qV qPo a.rows]
abbrev qQt (a : Qt) : Dt := .ins 23 [qPo a.num, qPo a.den]
abbrev qTm (a : Tm) : Dt := .ins 24 [.int a.start, qFr a.first, qQt a.ratio]
abbrev qBs (a : Bs) : Dt := .ins 25 [qPo2 a.weight, qFr a.base, .int a.choose, .int a.rise, .int a.central]
abbrev qOpr (a : Opr) : Dt := .ins 26 [qV qPo a.coefs]
abbrev qRw (a : Rw) : Dt := .ins 27 [qOpr a.operator, qV qFr a.initial]
abbrev qT0 (_ : Unit) : Dt := .tup []
section
variable {σ τ σ' β α : Type} {o : Option Out} {E : σ → PEnv → Prop} {E' : σ' → PEnv → Prop} {B : τ → PEnv → Prop} {R : β → Rs → Prop} {F : FS} {ρ ρ' : PEnv} {t : FT} {b : Bool} {args : List Dt}
def Fl.map (q : Fl σ τ β) (f : σ → σ') : Fl σ' τ β := match q with
  | .nx s => .nx (f s)
  | .bk s => .bk s
  | .ct s => .ct s
  | .rt r => .rt r
@[simp] theorem Fl.map_nx (s : σ) (f : σ → σ') : (Fl.nx s : Fl σ τ β).map f = .nx (f s) := rfl
@[simp] theorem Fl.map_rt (s : β) (f : σ → σ') : (Fl.rt s : Fl σ τ β).map f = .rt s := rfl
theorem NxOk.map {q : σ} {f : σ → σ'} (h : NxOk o E q) (i : ∀ s ρ, E s ρ → E' (f s) ρ) : NxOk o E' (f q) := let ⟨r, a, b⟩ := h; ⟨r, a, i _ _ b⟩
theorem FlOk.map {q : Fl σ τ β} {f : σ → σ'} (h : FlOk o E B R q) (i : ∀ s ρ, E s ρ → E' (f s) ρ) : FlOk o E' B R (q.map f) := by
  cases q with
  | nx s => obtain ⟨r, a, b⟩ := h; exact ⟨r, a, i _ _ b⟩
  | bk s => exact h
  | ct s => exact h
  | rt s => exact h
theorem sq_NR {G H : FS} {q : σ} {x : β} (h : NxOk (G ρ) E q) (k : ∀ ρ', E q ρ' → RtOk (H ρ') R x) : RtOk (sSeq G H ρ) R x := sq_N (P := fun o => RtOk o R x) h k
theorem sq_NN {G H : FS} {q : σ} {x : σ'} (h : NxOk (G ρ) E q) (k : ∀ ρ', E q ρ' → NxOk (H ρ') E' x) : NxOk (sSeq G H ρ) E' x := sq_N (P := fun o => NxOk o E' x) h k
theorem tv_eq (h : TV t ρ b) (e : b = false) : TV t ρ false := e ▸ h
theorem st_appT {n : Nat} {f : FE} {r : Rs} {e : α → Dt} {xs : List α} {x : α} (h0 : ρ[n]? = some (some (.own (xs.map e)))) (h : EV f ρ r) (hz : frz r = some (.ok (e x))) (hl : xs.length < LINE) (hρ : ρ.set n (some (.own ((xs ++ [x]).map e))) = ρ') : sApp n f ρ = some (.nx ρ') := by
  rw [List.map_append, List.map_cons, List.map_nil] at hρ
  exact st_app h0 h hz (by rw [List.length_map]; exact hl) hρ
end
end Pd
set_option maxHeartbeats 2000000
namespace Pd
open PySem PySem.Spec L2
section
variable {α β : Type} {f g : FE} {ρ : PEnv} {i j : Int} {ds es : List Dt} {r : Rs} {n m : Nat}
class PyE (e : α → Dt) where
  py : α → PyData
  dep : Nat
  ok : ∀ a, pyD (e a) = some (py a)
  lay : ∀ a, (py a).canLay0 = true
  le : ∀ a, (py a).depth ≤ dep
  eq : ∀ a b, PyData.eqv (py a) (py b) = true ↔ a = b
instance : PyE qI := ⟨.int, 0, fun _ => by simp [pyD], fun _ => by simp [PyData.canLay0], fun _ => by simp [PyData.depth], fun a b => by simp [PyData.eqv]⟩
instance : PyE qB := ⟨.bool, 0, fun _ => by simp [pyD], fun _ => by simp [PyData.canLay0], fun _ => by simp [PyData.depth], fun a b => by simp [PyData.eqv]⟩
instance : PyE qN := ⟨fun _ => .none, 0, fun _ => by simp [pyD], fun _ => by simp [PyData.canLay0], fun _ => by simp [PyData.depth], fun a b => by simp [PyData.eqv]⟩
theorem pyDs_map (e : α → Dt) [P : PyE e] (xs : List α) : pyDs (xs.map e) = some (xs.map P.py) := by
  induction xs with
  | nil => simp [pyDs]
  | cons x xs ih => simp only [List.map_cons, pyDs, P.ok x, ih]
theorem lay_map (e : α → Dt) [P : PyE e] (xs : List α) : PyData.canLayAll0 (xs.map P.py) = true := by
  induction xs with
  | nil => simp [PyData.canLayAll0]
  | cons x xs ih => simp only [List.map_cons, PyData.canLayAll0, P.lay x, ih, Bool.and_self]
theorem dep_map (e : α → Dt) [P : PyE e] (xs : List α) : PyData.depthAll (xs.map P.py) ≤ P.dep := by
  induction xs with
  | nil => simp [PyData.depthAll]
  | cons x xs ih =>
    simp only [List.map_cons, PyData.depthAll]
    have := P.le x
    omega
theorem eq_map (e : α → Dt) [P : PyE e] (xs ys : List α) : PyData.eqvAll (xs.map P.py) (ys.map P.py) = true ↔ xs = ys := by
  induction xs generalizing ys with
  | nil => cases ys <;> simp [PyData.eqvAll]
  | cons x xs ih =>
    cases ys with
    | nil => simp [PyData.eqvAll]
    | cons y ys => simp only [List.map_cons, PyData.eqvAll, Bool.and_eq_true, P.eq, ih, List.cons.injEq]
instance (e : α → Dt) [P : PyE e] : PyE (qL e) := ⟨fun xs => .list (xs.map P.py), P.dep + 1, fun xs => by simp [pyD, pyDs_map], fun xs => by simp only [PyData.canLay0]; exact lay_map e xs, fun xs => by simp only [PyData.depth]; have := dep_map e xs; omega, fun a b => by simp only [PyData.eqv]; exact eq_map e a b⟩
instance (e : α → Dt) [P : PyE e] : PyE (qV e) := ⟨fun xs => .tuple (xs.map P.py), P.dep + 1, fun xs => by simp [pyD, pyDs_map], fun xs => by simp only [PyData.canLay0]; exact lay_map e xs, fun xs => by simp only [PyData.depth]; have := dep_map e xs; omega, fun a b => by simp only [PyData.eqv]; exact eq_map e a b⟩
instance (e : α → Dt) (e' : β → Dt) [P : PyE e] [Q : PyE e'] : PyE (qT2 e e') := ⟨fun p => .tuple [P.py p.1, Q.py p.2], max P.dep Q.dep + 1, fun p => by simp [pyD, pyDs, P.ok, Q.ok], fun p => by simp [PyData.canLay0, PyData.canLayAll0, P.lay, Q.lay],
  fun p => by simp only [PyData.depth, PyData.depthAll]; have := P.le p.1; have := Q.le p.2; omega, fun a b => by simp only [PyData.eqv, PyData.eqvAll, Bool.and_eq_true, P.eq, Q.eq, Bool.and_true]; exact ⟨fun h => Prod.ext h.1 h.2, fun h => by rw [h]; exact ⟨rfl, rfl⟩⟩⟩
theorem shp (e : α → Dt) [P : PyE e] (hd : P.dep ≤ 64) (a : α) : SeqAt.shaped (P.py a) = true := by
  unfold SeqAt.shaped
  rw [P.lay a, Bool.true_and]
  exact decide_eq_true (Nat.le_trans (P.le a) hd)
theorem eqDt_at {e : α → Dt} [P : PyE e] [DecidableEq α] (hd : P.dep ≤ 64) {x y : Rs} {a b : α} (hx : pyR x = some (P.py a)) (hy : pyR y = some (P.py b)) : eqDt x y = some (decide (a = b)) := by
  unfold eqDt
  rw [hx, hy]
  dsimp only
  rw [if_pos ⟨shp e hd a, shp e hd b⟩]
  congr 1
  rw [Bool.eq_iff_iff, decide_eq_true_eq]
  exact P.eq a b
theorem g_eqF {e : α → Dt} [P : PyE e] [DecidableEq α] {a b : α} (hd : P.dep ≤ 64 := by decide) : gEqD (.fro (e a)) (.fro (e b)) = some (.ok (.fro (.bl (decide (a = b))))) := by
  unfold gEqD
  rw [eqDt_at (e := e) hd (x := .fro (e a)) (y := .fro (e b)) (P.ok a) (P.ok b)]
end
end Pd
namespace Pd
open PySem PySem.Spec L2
section
variable {f g : FE} {t u : FT} {ρ : PEnv} {a : Bool} {α : Type}
end
end Pd
set_option maxHeartbeats 2000000
namespace Pd
open PySem PySem.Spec L2
section
variable {f g : FE} {fa : FA} {t : FT} {fn : Fn} {F G H : FS} {ρ ρ' : PEnv} {c n np nl i : Nat} {ds es args : List Dt} {b : Bool} {r : Rs} {hit res : Nat → Option Bool}
end
end Pd
set_option maxHeartbeats 2000000
namespace Pd
open PySem PySem.Spec L2
class NoL {α : Type} (e : α → Dt) : Prop where
  h : ∀ a, noL (e a) = true
theorem noLs_map {α : Type} {e : α → Dt} [n : NoL e] : ∀ xs : List α, noLs (xs.map e) = true
  | [] => rfl
  | x :: xs => by
    show (noL (e x) && noLs (xs.map e)) = true
    rw [n.h, noLs_map xs]; rfl
instance : NoL qI := ⟨fun _ => rfl⟩
instance : NoL qB := ⟨fun _ => rfl⟩
instance : NoL qS := ⟨fun _ => rfl⟩
instance : NoL qN := ⟨fun _ => rfl⟩
instance : NoL qT0 := ⟨fun _ => rfl⟩
section
variable {α β γ δ : Type} {e : α → Dt} {f : β → Dt} {g : γ → Dt} {h : δ → Dt}
instance [NoL e] : NoL (qV e) := ⟨fun xs => noLs_map xs⟩
instance [n : NoL e] : NoL (qO e) := ⟨fun o => by
  cases o with
  | none => rfl
  | some a => exact n.h a⟩
instance [n : NoL e] : NoL (qT1 e) := ⟨fun p => by simp [noL, noLs, n.h]⟩
instance [n : NoL e] [m : NoL f] : NoL (qT2 e f) := ⟨fun p => by simp [noL, noLs, n.h, m.h]⟩
instance [n : NoL e] [m : NoL f] [k : NoL g] : NoL (qT3 e f g) := ⟨fun p => by simp [noL, noLs, n.h, m.h, k.h]⟩
instance [n : NoL e] [m : NoL f] [k : NoL g] [l : NoL h] : NoL (qT4 e f g h) := ⟨fun p => by simp [noL, noLs, n.h, m.h, k.h, l.h]⟩
end
instance : NoL qFr := ⟨fun _ => rfl⟩
instance : NoL qPo := ⟨fun p => by
  have := noLs_map (e := qI) p.coefs
  simp [noL, noLs, this]⟩
instance : NoL qPo2 := ⟨fun p => by
  have := noLs_map (e := qPo) p.rows
  simp only [qPo2, noL, noLs, this]; rfl⟩
instance : NoL qQt := ⟨fun p => by
  have h1 := (inferInstance : NoL qPo).h p.num
  have h2 := (inferInstance : NoL qPo).h p.den
  show (noL (qPo p.num) && (noL (qPo p.den) && true)) = true
  rw [h1, h2]; rfl⟩
instance : NoL qTm := ⟨fun p => by
  have h1 := (inferInstance : NoL qFr).h p.first
  have h2 := (inferInstance : NoL qQt).h p.ratio
  show (true && (noL (qFr p.first) && (noL (qQt p.ratio) && true))) = true
  rw [h1, h2]; rfl⟩
instance : NoL qBs := ⟨fun p => by
  have h1 := (inferInstance : NoL qPo2).h p.weight
  have h2 := (inferInstance : NoL qFr).h p.base
  show (noL (qPo2 p.weight) && (noL (qFr p.base) && (true && (true && (true && true))))) = true
  rw [h1, h2]; rfl⟩
instance : NoL qOpr := ⟨fun p => by
  have := noLs_map (e := qPo) p.coefs
  simp only [qOpr, noL, noLs, this]; rfl⟩
instance : NoL qRw := ⟨fun p => by
  have h1 := (inferInstance : NoL qOpr).h p.operator
  have h2 := noLs_map (e := qFr) p.initial
  show (noL (qOpr p.operator) && (noLs (p.initial.map qFr) && true)) = true
  rw [h1, h2]; rfl⟩
theorem nl_fro {α : Type} {e : α → Dt} [n : NoL e] (a : α) : noR (.fro (e a)) = true := n.h a
section
variable {f : FE} {t : FT} {ρ ρ' : PEnv} {n : Nat} {ds : List Dt} {d : Dt} {r : Rs} {b : Bool} {k : Kd}
theorem ev_bor (h0 : ρ[n]? = some (some (.own ds))) (hρ : ρ.set n (some (.fro (.lst ds))) = ρ') (h : EV f ρ' r) (hn : noR r = true) : EV (eBor n f) ρ r := by
  subst hρ
  unfold EV eBor
  rw [h0]
  dsimp only
  rw [h]
  dsimp only
  rw [if_pos hn]
theorem tv_bor (h0 : ρ[n]? = some (some (.own ds))) (hρ : ρ.set n (some (.fro (.lst ds))) = ρ') (h : TV t ρ' b) : TV (tBor n t) ρ b := by
  subst hρ
  unfold TV tBor
  rw [h0]
  dsimp only
  rw [h]
end
end Pd
set_option maxHeartbeats 2000000
namespace Pd
open PySem PySem.Spec L2
end Pd
set_option maxHeartbeats 2000000
namespace Pd
open PySem PySem.Spec L2
end Pd
set_option maxHeartbeats 2000000
namespace Pd
open PySem PySem.Spec L2
inductive KV where
  | i (n : Int)
  | l (xs : List Int)
  | ll (xs : List (List Int))
  | p (xs : List (List Int × Int))
  | q (xs : List (Int × Int))
  deriving DecidableEq
instance : Inhabited KV := ⟨.i 0⟩
def KV.gl : KV → List Int
  | .l xs => xs
  | _ => []
def KV.gq : KV → List (Int × Int)
  | .q xs => xs
  | _ => []
section
variable {f : FE} {ρ : PEnv} {v : KV}
end
section
variable {f g : FE} {t : FT} {F G : FS} {ρ ρ' : PEnv} {c i : Nat} {d : Dt} {b : Bool} {hit : Nat → Option Bool} {gx : Nat → Option GX}
end
end Pd
set_option maxHeartbeats 2000000
namespace Pd
open PySem PySem.Spec L2
def eqS {α : Type} (q : α → α → Bool) : List α → List α → Bool
  | [], [] => true
  | x :: xs, y :: ys => q x y && eqS q xs ys
  | _, _ => false
@[simp] theorem eqS_self {α : Type} {q : α → α → Bool} (h : ∀ x, q x x = true) : ∀ xs : List α, eqS q xs xs = true
  | [] => rfl
  | x :: xs => by
    show (q x x && eqS q xs xs) = true
    rw [h x, eqS_self h xs]; rfl
theorem eqS_len {α : Type} {q : α → α → Bool} : ∀ {xs ys : List α}, xs.length ≠ ys.length → eqS q xs ys = false
  | [], [], h => absurd rfl h
  | [], _ :: _, _ => rfl
  | _ :: _, [], _ => rfl
  | x :: xs, y :: ys, h => by
    show (q x y && eqS q xs ys) = false
    rw [eqS_len (xs := xs) (ys := ys) (by simpa using h), Bool.and_false]
class SmE {α : Type} (e : α → Dt) : Prop where
  sm : ∀ x y, same (e x) (e y) = true
theorem sames_map {α : Type} {e : α → Dt} [S : SmE e] : ∀ xs ys : List α, sames (xs.map e) (ys.map e) = true
  | [], [] => rfl
  | [], _ :: _ => rfl
  | _ :: _, [] => rfl
  | x :: xs, y :: ys => by
    show (same (e x) (e y) && sames (xs.map e) (ys.map e)) = true
    rw [S.sm x y, sames_map xs ys]; rfl
instance : SmE qI := ⟨fun _ _ => rfl⟩
instance : SmE qB := ⟨fun _ _ => rfl⟩
instance {α : Type} {e : α → Dt} [SmE e] : SmE (qL e) := ⟨fun xs ys => sames_map xs ys⟩
instance {α : Type} {e : α → Dt} [SmE e] : SmE (qV e) := ⟨fun xs ys => sames_map xs ys⟩
instance : SmE qFr := ⟨fun _ _ => rfl⟩
instance : SmE qPo := ⟨fun x y => by
  show (decide (21 = 21) && (sames (x.coefs.map qI) (y.coefs.map qI) && (true && true))) = true
  rw [sames_map]; rfl⟩
instance : SmE qPo2 := ⟨fun x y => by
  show (decide (22 = 22) && (sames (x.rows.map qPo) (y.rows.map qPo) && true)) = true
  rw [sames_map]; rfl⟩
section
variable {α : Type} {e : α → Dt} [S : SmE e] {ops : Nat → Option Fn} {c : Nat} {fn : Fn} {q : α → α → Bool}
theorem seqI_map (hfn : ops c = some fn) (he : ∀ x, ∃ ds, e x = .ins c ds) (hq : ∀ x y, fn [e x, e y] = some (.ok (.fro (qB (q x y))))) (hr : ∀ x, q x x = true) : ∀ xs ys : List α, seqI ops (xs.map e) (ys.map e) = some (eqS q xs ys)
  | [], [] => rfl
  | [], _ :: _ => rfl
  | _ :: _, [] => rfl
  | x :: xs, y :: ys => by
    have ih := seqI_map hfn he hq hr xs ys
    have h1 := hq x y
    have h2 : q x y = false → e x ≠ e y := fun h z => by
      rw [← z, hq x x, hr x, h] at h1
      cases h1
    have h3 := S.sm x y
    show seqI ops (e x :: xs.map e) (e y :: ys.map e) = some (q x y && eqS q xs ys)
    obtain ⟨ds, ex⟩ := he x
    obtain ⟨es, ey⟩ := he y
    rw [ex, ey] at h1 h2 h3 ⊢
    unfold seqI
    rw [if_pos rfl, hfn]
    dsimp only
    rw [h1]
    cases h : q x y with
    | true =>
      show seqI ops (xs.map e) (ys.map e) = _
      rw [ih]; rfl
    | false =>
      dsimp only [qB]
      rw [if_pos ⟨h3, h2 h⟩]; rfl
theorem asL_k {k : Kd} {ds : List Dt} : asL (kR k ds) = some ds := by cases k <;> rfl
theorem eqSeq_K {k l : Kd} (hfn : ops c = some fn) (he : ∀ x, ∃ ds, e x = .ins c ds) (hq : ∀ x y, fn [e x, e y] = some (.ok (.fro (qB (q x y))))) (hr : ∀ x, q x x = true) (xs ys : List α) : eqSeq ops (kR k (xs.map e)) (kR l (ys.map e)) = some (eqS q xs ys) := by
  have h : eqSeq ops (kR k (xs.map e)) (kR l (ys.map e)) = (match asL (kR k (xs.map e)), asL (kR l (ys.map e)) with
    | some ds, some es => if ds.length = es.length then seqI ops ds es else some false
    | _, _ => none) := by cases k <;> cases l <;> rfl
  rw [h, asL_k, asL_k]
  dsimp only
  split
  · exact seqI_map hfn he hq hr xs ys
  · rename_i hl
    rw [eqS_len (by simpa using hl)]
theorem g_NeK {k l : Kd} (hfn : ops c = some fn) (he : ∀ x, ∃ ds, e x = .ins c ds) (hq : ∀ x y, fn [e x, e y] = some (.ok (.fro (qB (q x y))))) (hr : ∀ x, q x x = true) {xs ys : List α} : gNeI ops (kR k (xs.map e)) (kR l (ys.map e)) = some (.ok (.fro (qB (!eqS q xs ys)))) := by
  unfold gNeI; rw [eqSeq_K hfn he hq hr]
end
instance {α β : Type} (e : α → Dt) (e' : β → Dt) [P : PyE e] [Q : PyE e'] : PyE (qO (qT2 e e')) := ⟨fun o => match o with | none => .none | some a => .tuple [P.py a.1, Q.py a.2], max P.dep Q.dep + 1, fun o => by cases o <;> simp [qO, pyD, pyDs, P.ok, Q.ok],
  fun o => by cases o <;> simp [PyData.canLay0, PyData.canLayAll0, P.lay, Q.lay],
  fun o => by
    cases o with
    | none => exact Nat.zero_le _
    | some p => simp only [PyData.depth, PyData.depthAll]; have := P.le p.1; have := Q.le p.2; omega,
  fun a b => by
    cases a with
    | none => cases b <;> simp [PyData.eqv]
    | some a =>
      cases b with
      | none => simp [PyData.eqv]
      | some b =>
        simp only [PyData.eqv, PyData.eqvAll, Bool.and_eq_true, P.eq, Q.eq, Bool.and_true, Option.some.injEq]
        exact ⟨fun h => Prod.ext h.1 h.2, fun h => by rw [h]; exact ⟨rfl, rfl⟩⟩⟩
end Pd
set_option maxHeartbeats 2000000
namespace Pd
open PySem PySem.Spec L2
end Pd
set_option maxHeartbeats 2000000
namespace Pd
open PySem PySem.Spec L2
noncomputable def q_law_numbers_2 (script' : List Int) (count' : Int) (rest' : Int) : Int :=
  (gt script' (0 : Int))
def v_law_numbers_2 (script' : List Int) (count' : Int) (rest' : Int) : Prop :=
  inR script' (0 : Int)
noncomputable def q_law_numbers_3 (script' : List Int) (count' : Int) (rest' : Int) : Int :=
  if (decide ((script'.length : Int) > (0 : Int))) then q_law_numbers_2 script' count' rest' else rest'
noncomputable def q_law_numbers_9 (script' : List Int) (rest' : Int) (by_digits' : Bool) (numbers_here' : List Int) : Int × (List Int) :=
  ((Int.fdiv rest' (1000000 : Int)), numbers_here')
noncomputable def q_law_numbers_8 (script' : List Int) (rest' : Int) (by_digits' : Bool) (numbers_here' : List Int) : Int × (List Int) :=
  q_law_numbers_9 script' rest' by_digits' (numbers_here' ++ [(Int.fmod rest' (1000000 : Int))])
def v_law_numbers_8 (script' : List Int) (rest' : Int) (by_digits' : Bool) (numbers_here' : List Int) : Prop :=
  numbers_here'.length < LINE
noncomputable def q_law_numbers_12 (script' : List Int) (rest' : Int) (by_digits' : Bool) (numbers_here' : List Int) (k' : Int) (cell' : Int) : Int :=
  ((gt script' (Int.fmod k' (script'.length : Int))) + ((7919 : Int) * k'))
def v_law_numbers_12 (script' : List Int) (rest' : Int) (by_digits' : Bool) (numbers_here' : List Int) (k' : Int) (cell' : Int) : Prop :=
  ((script'.length : Int) ≠ 0 ∧ inR script' (Int.fmod k' (script'.length : Int)) ∧ mulOk (7919 : Int) k' = true)
noncomputable def q_law_numbers_13 (script' : List Int) (rest' : Int) (by_digits' : Bool) (numbers_here' : List Int) (k' : Int) (cell' : Int) : Int :=
  if (decide ((script'.length : Int) > (0 : Int))) then q_law_numbers_12 script' rest' by_digits' numbers_here' k' cell' else cell'
noncomputable def q_law_numbers_14 (script' : List Int) (rest' : Int) (by_digits' : Bool) (numbers_here' : List Int) (cell' : Int) : Int × (List Int) :=
  (rest', (numbers_here' ++ [(Int.fmod (Int.fmod ((Int.fmod (cell' * (48271 : Int)) (2147483647 : Int)) * (69621 : Int)) (2147483629 : Int)) (1000000 : Int))]))
def v_law_numbers_14 (script' : List Int) (rest' : Int) (by_digits' : Bool) (numbers_here' : List Int) (cell' : Int) : Prop :=
  (mulOk cell' (48271 : Int) = true ∧ mulOk (Int.fmod (cell' * (48271 : Int)) (2147483647 : Int)) (69621 : Int) = true ∧ numbers_here'.length < LINE)
noncomputable def q_law_numbers_11 (script' : List Int) (rest' : Int) (by_digits' : Bool) (numbers_here' : List Int) (k' : Int) (cell' : Int) : Int × (List Int) :=
  q_law_numbers_14 script' rest' by_digits' numbers_here' (q_law_numbers_13 script' rest' by_digits' numbers_here' k' cell')
def v_law_numbers_11 (script' : List Int) (rest' : Int) (by_digits' : Bool) (numbers_here' : List Int) (k' : Int) (cell' : Int) : Prop :=
  (((decide ((script'.length : Int) > (0 : Int))) = true → v_law_numbers_12 script' rest' by_digits' numbers_here' k' cell') ∧ v_law_numbers_14 script' rest' by_digits' numbers_here' (q_law_numbers_13 script' rest' by_digits' numbers_here' k' cell'))
noncomputable def q_law_numbers_10 (script' : List Int) (rest' : Int) (by_digits' : Bool) (numbers_here' : List Int) (k' : Int) : Int × (List Int) :=
  q_law_numbers_11 script' rest' by_digits' numbers_here' k' (13 : Int)
def v_law_numbers_10 (script' : List Int) (rest' : Int) (by_digits' : Bool) (numbers_here' : List Int) (k' : Int) : Prop :=
  v_law_numbers_11 script' rest' by_digits' numbers_here' k' (13 : Int)
noncomputable def q_law_numbers_7 (script' : List Int) (rest' : Int) (by_digits' : Bool) (numbers_here' : List Int) (k' : Int) : Int × (List Int) :=
  if (by_digits' && (decide (rest' > (0 : Int)))) then q_law_numbers_8 script' rest' by_digits' numbers_here' else q_law_numbers_10 script' rest' by_digits' numbers_here' k'
def v_law_numbers_7 (script' : List Int) (rest' : Int) (by_digits' : Bool) (numbers_here' : List Int) (k' : Int) : Prop :=
  (((by_digits' && (decide (rest' > (0 : Int)))) = true → v_law_numbers_8 script' rest' by_digits' numbers_here') ∧ ((by_digits' && (decide (rest' > (0 : Int)))) = false → v_law_numbers_10 script' rest' by_digits' numbers_here' k'))
noncomputable def q_law_numbers_15 (script' : List Int) (count' : Int) (rest' : Int) (by_digits' : Bool) (numbers_here' : List Int) : Int × (List Int) :=
  (rngT 0 count').foldl (fun (s5 : Int × (List Int)) (x6 : Int) => q_law_numbers_7 script' s5.1 by_digits' s5.2 x6) (rest', numbers_here')
noncomputable def q_law_numbers_16 (numbers_here' : List Int) : List Int :=
  numbers_here'
noncomputable def q_law_numbers_6 (script' : List Int) (count' : Int) (rest' : Int) (by_digits' : Bool) (numbers_here' : List Int) : List Int :=
  q_law_numbers_16 ((q_law_numbers_15 script' count' rest' by_digits' numbers_here').2)
def v_law_numbers_6 (script' : List Int) (count' : Int) (rest' : Int) (by_digits' : Bool) (numbers_here' : List Int) : Prop :=
  (rOk count' = true ∧ forV (fun (s5 : Int × (List Int)) (x6 : Int) => v_law_numbers_7 script' s5.1 by_digits' s5.2 x6) (fun (s5 : Int × (List Int)) (x6 : Int) => q_law_numbers_7 script' s5.1 by_digits' s5.2 x6) (rngT 0 count') (rest', numbers_here'))
noncomputable def q_law_numbers_5 (script' : List Int) (count' : Int) (rest' : Int) (by_digits' : Bool) : List Int :=
  q_law_numbers_6 script' count' rest' by_digits' ([] : List Int)
def v_law_numbers_5 (script' : List Int) (count' : Int) (rest' : Int) (by_digits' : Bool) : Prop :=
  v_law_numbers_6 script' count' rest' by_digits' ([] : List Int)
noncomputable def q_law_numbers_4 (script' : List Int) (count' : Int) (rest' : Int) : List Int :=
  q_law_numbers_5 script' count' rest' (decide (rest' ≥ (1000000000000000000 : Int)))
def v_law_numbers_4 (script' : List Int) (count' : Int) (rest' : Int) : Prop :=
  v_law_numbers_5 script' count' rest' (decide (rest' ≥ (1000000000000000000 : Int)))
noncomputable def q_law_numbers_1 (script' : List Int) (count' : Int) (rest' : Int) : List Int :=
  q_law_numbers_4 script' count' (q_law_numbers_3 script' count' rest')
def v_law_numbers_1 (script' : List Int) (count' : Int) (rest' : Int) : Prop :=
  (((decide ((script'.length : Int) > (0 : Int))) = true → v_law_numbers_2 script' count' rest') ∧ v_law_numbers_4 script' count' (q_law_numbers_3 script' count' rest'))
noncomputable def q_law_numbers_0 (script' : List Int) (count' : Int) : List Int :=
  q_law_numbers_1 script' count' (0 : Int)
def v_law_numbers_0 (script' : List Int) (count' : Int) : Prop :=
  v_law_numbers_1 script' count' (0 : Int)
noncomputable def q_law_numbers (script' : List Int) (count' : Int) : List Int :=
  q_law_numbers_0 script' count'
def v_law_numbers (script' : List Int) (count' : Int) : Prop :=
  v_law_numbers_0 script' count'
noncomputable def q_law_coefs_4 (numbers_here' : List Int) (start' : Int) (coefs_here' : List Int) : (List Int) :=
  (coefs_here' ++ [(0 : Int)])
def v_law_coefs_4 (numbers_here' : List Int) (start' : Int) (coefs_here' : List Int) : Prop :=
  coefs_here'.length < LINE
noncomputable def q_law_coefs_5 (numbers_here' : List Int) (start' : Int) (coefs_here' : List Int) (number' : Int) : (List Int) :=
  (coefs_here' ++ [((Int.fmod (Int.fdiv number' (4 : Int)) (25 : Int)) - (12 : Int))])
def v_law_coefs_5 (numbers_here' : List Int) (start' : Int) (coefs_here' : List Int) (number' : Int) : Prop :=
  coefs_here'.length < LINE
noncomputable def q_law_coefs_3 (numbers_here' : List Int) (start' : Int) (coefs_here' : List Int) (number' : Int) : (List Int) :=
  if (decide ((Int.fmod number' (4 : Int)) = (1 : Int))) then q_law_coefs_4 numbers_here' start' coefs_here' else q_law_coefs_5 numbers_here' start' coefs_here' number'
def v_law_coefs_3 (numbers_here' : List Int) (start' : Int) (coefs_here' : List Int) (number' : Int) : Prop :=
  (((decide ((Int.fmod number' (4 : Int)) = (1 : Int))) = true → v_law_coefs_4 numbers_here' start' coefs_here') ∧ ((decide ((Int.fmod number' (4 : Int)) = (1 : Int))) = false → v_law_coefs_5 numbers_here' start' coefs_here' number'))
noncomputable def q_law_coefs_2 (numbers_here' : List Int) (start' : Int) (coefs_here' : List Int) (k' : Int) : (List Int) :=
  q_law_coefs_3 numbers_here' start' coefs_here' (gt numbers_here' (start' + k'))
def v_law_coefs_2 (numbers_here' : List Int) (start' : Int) (coefs_here' : List Int) (k' : Int) : Prop :=
  (inR numbers_here' (start' + k') ∧ v_law_coefs_3 numbers_here' start' coefs_here' (gt numbers_here' (start' + k')))
noncomputable def q_law_coefs_6 (numbers_here' : List Int) (start' : Int) (size' : Int) (coefs_here' : List Int) : (List Int) :=
  (rngT 0 size').foldl (fun (s2 : (List Int)) (x3 : Int) => q_law_coefs_2 numbers_here' start' s2 x3) coefs_here'
noncomputable def q_law_coefs_7 (coefs_here' : List Int) : List Int :=
  coefs_here'
noncomputable def q_law_coefs_1 (numbers_here' : List Int) (start' : Int) (size' : Int) (coefs_here' : List Int) : List Int :=
  q_law_coefs_7 (q_law_coefs_6 numbers_here' start' size' coefs_here')
def v_law_coefs_1 (numbers_here' : List Int) (start' : Int) (size' : Int) (coefs_here' : List Int) : Prop :=
  (rOk size' = true ∧ forV (fun (s2 : (List Int)) (x3 : Int) => v_law_coefs_2 numbers_here' start' s2 x3) (fun (s2 : (List Int)) (x3 : Int) => q_law_coefs_2 numbers_here' start' s2 x3) (rngT 0 size') coefs_here')
noncomputable def q_law_coefs_0 (numbers_here' : List Int) (start' : Int) (size' : Int) : List Int :=
  q_law_coefs_1 numbers_here' start' size' ([] : List Int)
def v_law_coefs_0 (numbers_here' : List Int) (start' : Int) (size' : Int) : Prop :=
  v_law_coefs_1 numbers_here' start' size' ([] : List Int)
noncomputable def q_law_coefs (numbers_here' : List Int) (start' : Int) (size' : Int) : List Int :=
  q_law_coefs_0 numbers_here' start' size'
def v_law_coefs (numbers_here' : List Int) (start' : Int) (size' : Int) : Prop :=
  v_law_coefs_0 numbers_here' start' size'
noncomputable def q_trimmed_2 (numbers' : List Int) (size' : Int) : Int :=
  (size' - (1 : Int))
noncomputable def q_trimmed_3 (numbers' : List Int) (size' : Int) : Int :=
  wh (fun (s1 : Int) => ((decide (s1 > (0 : Int))) && (decide ((gt numbers' (s1 - (1 : Int))) = (0 : Int))))) (fun (s1 : Int) => q_trimmed_2 numbers' s1) size'
noncomputable def q_trimmed_4 (numbers' : List Int) (size' : Int) : List Int :=
  (cutT numbers' none (some size'))
noncomputable def q_trimmed_1 (numbers' : List Int) (size' : Int) : List Int :=
  q_trimmed_4 numbers' (q_trimmed_3 numbers' size')
def v_trimmed_1 (numbers' : List Int) (size' : Int) : Prop :=
  whV (fun (s1 : Int) => ((decide (s1 > (0 : Int))) && (decide ((gt numbers' (s1 - (1 : Int))) = (0 : Int))))) (fun (s1 : Int) => ((decide (s1 > (0 : Int))) = true → inR numbers' (s1 - (1 : Int)))) (fun (s1 : Int) => q_trimmed_2 numbers' s1) (fun (s1 : Int) => True) size'
noncomputable def q_trimmed_0 (numbers' : List Int) : List Int :=
  q_trimmed_1 numbers' (numbers'.length : Int)
def v_trimmed_0 (numbers' : List Int) : Prop :=
  v_trimmed_1 numbers' (numbers'.length : Int)
noncomputable def q_trimmed (numbers' : List Int) : List Int :=
  q_trimmed_0 numbers'
def v_trimmed (numbers' : List Int) : Prop :=
  v_trimmed_0 numbers'
noncomputable def q_content_2 (divisor' : Int) (number' : Int) : Int :=
  (Int.gcd divisor' number' : Int)
noncomputable def q_content_3 (numbers' : List Int) (divisor' : Int) : Int :=
  numbers'.foldl (fun (s1 : Int) (x2 : Int) => q_content_2 s1 x2) divisor'
noncomputable def q_content_4 (divisor' : Int) : Int :=
  divisor'
noncomputable def q_content_1 (numbers' : List Int) (divisor' : Int) : Int :=
  q_content_4 (q_content_3 numbers' divisor')
noncomputable def q_content_0 (numbers' : List Int) : Int :=
  q_content_1 numbers' (0 : Int)
noncomputable def q_content (numbers' : List Int) : Int :=
  q_content_0 numbers'
noncomputable def q_Poly_init_4 (den' : Int) (numbers' : List Int) (divisor' : Int) : Int :=
  (-divisor')
noncomputable def q_Poly_init_5 (den' : Int) (numbers' : List Int) (divisor' : Int) : Int :=
  if (decide (den' < (0 : Int))) then q_Poly_init_4 den' numbers' divisor' else divisor'
noncomputable def q_Poly_init_7 (den' : Int) (divisor' : Int) (sf_coefs : List Int) : (List Int) × Int :=
  (sf_coefs, (Int.fdiv den' divisor'))
def v_Poly_init_7 (den' : Int) (divisor' : Int) (sf_coefs : List Int) : Prop :=
  divisor' ≠ 0
noncomputable def q_Poly_init_6 (den' : Int) (numbers' : List Int) (divisor' : Int) : (List Int) × Int :=
  q_Poly_init_7 den' divisor' (numbers'.map fun (x3 : Int) => (Int.fdiv x3 divisor'))
def v_Poly_init_6 (den' : Int) (numbers' : List Int) (divisor' : Int) : Prop :=
  ((∀ x3, x3 ∈ numbers' → divisor' ≠ 0) ∧ numbers'.length ≤ LINE ∧ v_Poly_init_7 den' divisor' (numbers'.map fun (x3 : Int) => (Int.fdiv x3 divisor')))
noncomputable def q_Poly_init_3 (den' : Int) (numbers' : List Int) (divisor' : Int) : (List Int) × Int :=
  q_Poly_init_6 den' numbers' (q_Poly_init_5 den' numbers' divisor')
def v_Poly_init_3 (den' : Int) (numbers' : List Int) (divisor' : Int) : Prop :=
  v_Poly_init_6 den' numbers' (q_Poly_init_5 den' numbers' divisor')
noncomputable def q_Poly_init_2 (den' : Int) (numbers' : List Int) : (List Int) × Int :=
  q_Poly_init_3 den' numbers' (Int.gcd (q_content numbers') den' : Int)
def v_Poly_init_2 (den' : Int) (numbers' : List Int) : Prop :=
  v_Poly_init_3 den' numbers' (Int.gcd (q_content numbers') den' : Int)
noncomputable def q_Poly_init_1 (coefs' : List Int) (den' : Int) : (List Int) × Int :=
  q_Poly_init_2 den' (q_trimmed coefs')
def v_Poly_init_1 (coefs' : List Int) (den' : Int) : Prop :=
  (v_trimmed coefs' ∧ v_Poly_init_2 den' (q_trimmed coefs'))
noncomputable def q_Poly_init_0 (coefs' : List Int) (den' : Int) : (List Int) × Int :=
  q_Poly_init_1 coefs' den'
def v_Poly_init_0 (coefs' : List Int) (den' : Int) : Prop :=
  ((decide (den' = (0 : Int))) = false ∧ v_Poly_init_1 coefs' den')
noncomputable def q_Poly_init (coefs' : List Int) (den' : Int) : Po :=
  ⟨(q_Poly_init_0 coefs' den').1, (q_Poly_init_0 coefs' den').2⟩
def v_Poly_init (coefs' : List Int) (den' : Int) : Prop :=
  v_Poly_init_0 coefs' den'
noncomputable def q_law_is_integer_0 (x' : Int) : Bool :=
  (true && (!false))
noncomputable def q_law_is_integer (x' : Int) : Bool :=
  q_law_is_integer_0 x'
noncomputable def q_law_divisor_5 (a' : Int) (b' : Int) (rest' : Int) : Int × Int :=
  (a', rest')
noncomputable def q_law_divisor_4 (a' : Int) (b' : Int) (rest' : Int) : Int × Int :=
  q_law_divisor_5 b' b' rest'
noncomputable def q_law_divisor_3 (a' : Int) (b' : Int) : Int × Int :=
  q_law_divisor_4 a' b' (Int.fmod a' b')
def v_law_divisor_3 (a' : Int) (b' : Int) : Prop :=
  b' ≠ 0
noncomputable def q_law_divisor_6 (a' : Int) (b' : Int) : Int × Int :=
  wh (fun (s1 : Int × Int) => (decide (s1.2 > (0 : Int)))) (fun (s1 : Int × Int) => q_law_divisor_3 s1.1 s1.2) (a', b')
noncomputable def q_law_divisor_7 (a' : Int) : Int :=
  a'
noncomputable def q_law_divisor_2 (a' : Int) (b' : Int) : Int :=
  q_law_divisor_7 ((q_law_divisor_6 a' b').1)
def v_law_divisor_2 (a' : Int) (b' : Int) : Prop :=
  whV (fun (s1 : Int × Int) => (decide (s1.2 > (0 : Int)))) (fun (s1 : Int × Int) => True) (fun (s1 : Int × Int) => q_law_divisor_3 s1.1 s1.2) (fun (s1 : Int × Int) => v_law_divisor_3 s1.1 s1.2) (a', b')
noncomputable def q_law_divisor_1 (a' : Int) (b' : Int) : Int :=
  q_law_divisor_2 a' (b'.natAbs : Int)
def v_law_divisor_1 (a' : Int) (b' : Int) : Prop :=
  v_law_divisor_2 a' (b'.natAbs : Int)
noncomputable def q_law_divisor_0 (a' : Int) (b' : Int) : Int :=
  q_law_divisor_1 (a'.natAbs : Int) b'
def v_law_divisor_0 (a' : Int) (b' : Int) : Prop :=
  v_law_divisor_1 (a'.natAbs : Int) b'
noncomputable def q_law_divisor (a' : Int) (b' : Int) : Int :=
  q_law_divisor_0 a' b'
def v_law_divisor (a' : Int) (b' : Int) : Prop :=
  v_law_divisor_0 a' b'
noncomputable def q_law_poly_is_1  : Bool :=
  false
noncomputable def q_law_poly_is_5  : Bool :=
  false
noncomputable def q_law_poly_is_6 (p' : Po) (coefs_here' : List Int) (den' : Int) (shared' : Int) (number' : Int) : Int :=
  q_law_divisor shared' number'
def v_law_poly_is_6 (p' : Po) (coefs_here' : List Int) (den' : Int) (shared' : Int) (number' : Int) : Prop :=
  v_law_divisor shared' number'
noncomputable def q_law_poly_is_4 (p' : Po) (coefs_here' : List Int) (den' : Int) (shared' : Int) (number' : Int) : Fl Int Int Bool :=
  if (!(q_law_is_integer number')) then .rt q_law_poly_is_5 else .nx (q_law_poly_is_6 p' coefs_here' den' shared' number')
def v_law_poly_is_4 (p' : Po) (coefs_here' : List Int) (den' : Int) (shared' : Int) (number' : Int) : Prop :=
  ((!(q_law_is_integer number')) = false → v_law_poly_is_6 p' coefs_here' den' shared' number')
noncomputable def q_law_poly_is_7 (p' : Po) (coefs_here' : List Int) (den' : Int) (shared' : Int) : Fl Int Empty Bool :=
  forX (fun (s6 : Int) (x7 : Int) => q_law_poly_is_4 p' coefs_here' den' s6 x7) p'.coefs shared'
noncomputable def q_law_poly_is_9  : Bool :=
  false
noncomputable def q_law_poly_is_15  : Bool :=
  false
noncomputable def q_law_poly_is_14 (p' : Po) (den' : Int) (mine' : List Int) (k' : Int) (due' : List Int) : Fl Unit Unit Bool :=
  if (!decide (((gt mine' k') * den') = ((gt due' k') * p'.den))) then .rt q_law_poly_is_15 else .nx ()
def v_law_poly_is_14 (p' : Po) (den' : Int) (mine' : List Int) (k' : Int) (due' : List Int) : Prop :=
  (inR mine' k' ∧ mulOk (gt mine' k') den' = true ∧ inR due' k' ∧ mulOk (gt due' k') p'.den = true)
noncomputable def q_law_poly_is_16 (p' : Po) (den' : Int) (size' : Int) (mine' : List Int) (due' : List Int) : Fl Unit Empty Bool :=
  forX (fun (s18 : Unit) (x19 : Int) => q_law_poly_is_14 p' den' mine' x19 due') (rngT 0 size') ()
noncomputable def q_law_poly_is_17  : Bool :=
  true
noncomputable def q_law_poly_is_13 (p' : Po) (den' : Int) (size' : Int) (mine' : List Int) (due' : List Int) : Bool :=
  (q_law_poly_is_16 p' den' size' mine' due').fin fun s21 => q_law_poly_is_17
def v_law_poly_is_13 (p' : Po) (den' : Int) (size' : Int) (mine' : List Int) (due' : List Int) : Prop :=
  (rOk size' = true ∧ forVX (fun (s18 : Unit) (x19 : Int) => v_law_poly_is_14 p' den' mine' x19 due') (fun (s18 : Unit) (x19 : Int) => q_law_poly_is_14 p' den' mine' x19 due') (rngT 0 size') ())
noncomputable def q_law_poly_is_12 (p' : Po) (coefs_here' : List Int) (den' : Int) (size' : Int) (mine' : List Int) : Bool :=
  q_law_poly_is_13 p' den' size' mine' (coefs_here' ++ ((rngT 0 (size' - (coefs_here'.length : Int))).map fun (x15 : Int) => (0 : Int)))
def v_law_poly_is_12 (p' : Po) (coefs_here' : List Int) (den' : Int) (size' : Int) (mine' : List Int) : Prop :=
  (rOk (size' - (coefs_here'.length : Int)) = true ∧ (rngT 0 (size' - (coefs_here'.length : Int))).length ≤ LINE ∧ coefs_here'.length + ((rngT 0 (size' - (coefs_here'.length : Int))).map fun (x15 : Int) => (0 : Int)).length ≤ LINE ∧ v_law_poly_is_13 p' den' size' mine' (coefs_here' ++ ((rngT 0 (size' - (coefs_here'.length : Int))).map fun (x15 : Int) => (0 : Int))))
noncomputable def q_law_poly_is_11 (p' : Po) (coefs_here' : List Int) (den' : Int) (size' : Int) : Bool :=
  q_law_poly_is_12 p' coefs_here' den' size' (p'.coefs ++ ((rngT 0 (size' - (p'.coefs.length : Int))).map fun (x13 : Int) => (0 : Int)))
def v_law_poly_is_11 (p' : Po) (coefs_here' : List Int) (den' : Int) (size' : Int) : Prop :=
  (rOk (size' - (p'.coefs.length : Int)) = true ∧ (rngT 0 (size' - (p'.coefs.length : Int))).length ≤ LINE ∧ p'.coefs.length + ((rngT 0 (size' - (p'.coefs.length : Int))).map fun (x13 : Int) => (0 : Int)).length ≤ LINE ∧ v_law_poly_is_12 p' coefs_here' den' size' (p'.coefs ++ ((rngT 0 (size' - (p'.coefs.length : Int))).map fun (x13 : Int) => (0 : Int))))
noncomputable def q_law_poly_is_10 (p' : Po) (coefs_here' : List Int) (den' : Int) : Bool :=
  q_law_poly_is_11 p' coefs_here' den' (max (p'.coefs.length : Int) (coefs_here'.length : Int))
def v_law_poly_is_10 (p' : Po) (coefs_here' : List Int) (den' : Int) : Prop :=
  v_law_poly_is_11 p' coefs_here' den' (max (p'.coefs.length : Int) (coefs_here'.length : Int))
noncomputable def q_law_poly_is_8 (p' : Po) (coefs_here' : List Int) (den' : Int) (shared' : Int) : Bool :=
  if ((!decide (shared' = (1 : Int))) || ((decide ((p'.coefs.length : Int) > (0 : Int))) && (decide ((gt p'.coefs (-(1 : Int))) = (0 : Int))))) then q_law_poly_is_9 else q_law_poly_is_10 p' coefs_here' den'
def v_law_poly_is_8 (p' : Po) (coefs_here' : List Int) (den' : Int) (shared' : Int) : Prop :=
  (((!decide (shared' = (1 : Int))) = false → ((decide ((p'.coefs.length : Int) > (0 : Int))) = true → inR p'.coefs (-(1 : Int)))) ∧ (((!decide (shared' = (1 : Int))) || ((decide ((p'.coefs.length : Int) > (0 : Int))) && (decide ((gt p'.coefs (-(1 : Int))) = (0 : Int))))) = false → v_law_poly_is_10 p' coefs_here' den'))
noncomputable def q_law_poly_is_3 (p' : Po) (coefs_here' : List Int) (den' : Int) (shared' : Int) : Bool :=
  (q_law_poly_is_7 p' coefs_here' den' shared').fin fun s9 => q_law_poly_is_8 p' coefs_here' den' s9
def v_law_poly_is_3 (p' : Po) (coefs_here' : List Int) (den' : Int) (shared' : Int) : Prop :=
  (forVX (fun (s6 : Int) (x7 : Int) => v_law_poly_is_4 p' coefs_here' den' s6 x7) (fun (s6 : Int) (x7 : Int) => q_law_poly_is_4 p' coefs_here' den' s6 x7) p'.coefs shared' ∧ (∀ s9, q_law_poly_is_7 p' coefs_here' den' shared' = .nx s9 → v_law_poly_is_8 p' coefs_here' den' s9))
noncomputable def q_law_poly_is_2 (p' : Po) (coefs_here' : List Int) (den' : Int) : Bool :=
  q_law_poly_is_3 p' coefs_here' den' p'.den
def v_law_poly_is_2 (p' : Po) (coefs_here' : List Int) (den' : Int) : Prop :=
  v_law_poly_is_3 p' coefs_here' den' p'.den
noncomputable def q_law_poly_is_0 (p' : Po) (coefs_here' : List Int) (den' : Int) : Bool :=
  if ((!true) || ((!true) || ((!(q_law_is_integer p'.den)) || (decide (p'.den < (1 : Int)))))) then q_law_poly_is_1 else q_law_poly_is_2 p' coefs_here' den'
def v_law_poly_is_0 (p' : Po) (coefs_here' : List Int) (den' : Int) : Prop :=
  (((!true) || ((!true) || ((!(q_law_is_integer p'.den)) || (decide (p'.den < (1 : Int)))))) = false → v_law_poly_is_2 p' coefs_here' den')
noncomputable def q_law_poly_is (p' : Po) (coefs_here' : List Int) (den' : Int) : Bool :=
  q_law_poly_is_0 p' coefs_here' den'
def v_law_poly_is (p' : Po) (coefs_here' : List Int) (den' : Int) : Prop :=
  v_law_poly_is_0 p' coefs_here' den'
noncomputable def q_law_product_3 (a' : List Int) (b' : List Int) (result' : List Int) (i' : Int) (j' : Int) : (List Int) :=
  setT result' (i' + j') ((gt result' (i' + j')) + ((gt a' i') * (gt b' j')))
def v_law_product_3 (a' : List Int) (b' : List Int) (result' : List Int) (i' : Int) (j' : Int) : Prop :=
  (inR result' (i' + j') ∧ inR a' i' ∧ inR b' j' ∧ mulOk (gt a' i') (gt b' j') = true ∧ inR result' (i' + j'))
noncomputable def q_law_product_2 (a' : List Int) (b' : List Int) (result' : List Int) (i' : Int) : (List Int) :=
  (fun s6 => s6) ((rngT 0 (b'.length : Int)).foldl (fun (s3 : (List Int)) (x4 : Int) => q_law_product_3 a' b' s3 i' x4) result')
def v_law_product_2 (a' : List Int) (b' : List Int) (result' : List Int) (i' : Int) : Prop :=
  (rOk (b'.length : Int) = true ∧ forV (fun (s3 : (List Int)) (x4 : Int) => v_law_product_3 a' b' s3 i' x4) (fun (s3 : (List Int)) (x4 : Int) => q_law_product_3 a' b' s3 i' x4) (rngT 0 (b'.length : Int)) result')
noncomputable def q_law_product_4 (a' : List Int) (b' : List Int) (result' : List Int) : (List Int) :=
  (rngT 0 (a'.length : Int)).foldl (fun (s7 : (List Int)) (x8 : Int) => q_law_product_2 a' b' s7 x8) result'
noncomputable def q_law_product_5 (result' : List Int) : List Int :=
  result'
noncomputable def q_law_product_1 (a' : List Int) (b' : List Int) (result' : List Int) : List Int :=
  q_law_product_5 (q_law_product_4 a' b' result')
def v_law_product_1 (a' : List Int) (b' : List Int) (result' : List Int) : Prop :=
  (rOk (a'.length : Int) = true ∧ forV (fun (s7 : (List Int)) (x8 : Int) => v_law_product_2 a' b' s7 x8) (fun (s7 : (List Int)) (x8 : Int) => q_law_product_2 a' b' s7 x8) (rngT 0 (a'.length : Int)) result')
noncomputable def q_law_product_0 (a' : List Int) (b' : List Int) : List Int :=
  q_law_product_1 a' b' ((rngT 0 ((a'.length : Int) + (b'.length : Int))).map fun (x1 : Int) => (0 : Int))
def v_law_product_0 (a' : List Int) (b' : List Int) : Prop :=
  (rOk ((a'.length : Int) + (b'.length : Int)) = true ∧ (rngT 0 ((a'.length : Int) + (b'.length : Int))).length ≤ LINE ∧ v_law_product_1 a' b' ((rngT 0 ((a'.length : Int) + (b'.length : Int))).map fun (x1 : Int) => (0 : Int)))
noncomputable def q_law_product (a' : List Int) (b' : List Int) : List Int :=
  q_law_product_0 a' b'
def v_law_product (a' : List Int) (b' : List Int) : Prop :=
  v_law_product_0 a' b'
noncomputable def q_Fraction_init_3 (num' : Int) (den' : Int) (divisor' : Int) : Int :=
  (-divisor')
noncomputable def q_Fraction_init_4 (num' : Int) (den' : Int) (divisor' : Int) : Int :=
  if (decide (den' < (0 : Int))) then q_Fraction_init_3 num' den' divisor' else divisor'
noncomputable def q_Fraction_init_6 (den' : Int) (divisor' : Int) (sf_num : Int) : Int × Int :=
  (sf_num, (Int.fdiv den' divisor'))
def v_Fraction_init_6 (den' : Int) (divisor' : Int) (sf_num : Int) : Prop :=
  divisor' ≠ 0
noncomputable def q_Fraction_init_5 (num' : Int) (den' : Int) (divisor' : Int) : Int × Int :=
  q_Fraction_init_6 den' divisor' (Int.fdiv num' divisor')
def v_Fraction_init_5 (num' : Int) (den' : Int) (divisor' : Int) : Prop :=
  (divisor' ≠ 0 ∧ v_Fraction_init_6 den' divisor' (Int.fdiv num' divisor'))
noncomputable def q_Fraction_init_2 (num' : Int) (den' : Int) (divisor' : Int) : Int × Int :=
  q_Fraction_init_5 num' den' (q_Fraction_init_4 num' den' divisor')
def v_Fraction_init_2 (num' : Int) (den' : Int) (divisor' : Int) : Prop :=
  v_Fraction_init_5 num' den' (q_Fraction_init_4 num' den' divisor')
noncomputable def q_Fraction_init_1 (num' : Int) (den' : Int) : Int × Int :=
  q_Fraction_init_2 num' den' (Int.gcd num' den' : Int)
def v_Fraction_init_1 (num' : Int) (den' : Int) : Prop :=
  v_Fraction_init_2 num' den' (Int.gcd num' den' : Int)
noncomputable def q_Fraction_init_0 (num' : Int) (den' : Int) : Int × Int :=
  q_Fraction_init_1 num' den'
def v_Fraction_init_0 (num' : Int) (den' : Int) : Prop :=
  ((decide (den' = (0 : Int))) = false ∧ v_Fraction_init_1 num' den')
noncomputable def q_Fraction_init (num' : Int) (den' : Int) : Fr :=
  ⟨(q_Fraction_init_0 num' den').1, (q_Fraction_init_0 num' den').2⟩
def v_Fraction_init (num' : Int) (den' : Int) : Prop :=
  v_Fraction_init_0 num' den'
noncomputable def q_Poly_scaled_0 (self' : Po) (factor' : Fr) : Po :=
  q_Poly_init (self'.coefs.map fun (x1 : Int) => (x1 * factor'.num)) (self'.den * factor'.den)
def v_Poly_scaled_0 (self' : Po) (factor' : Fr) : Prop :=
  ((∀ x1, x1 ∈ self'.coefs → mulOk x1 factor'.num = true) ∧ self'.coefs.length ≤ LINE ∧ mulOk self'.den factor'.den = true ∧ v_Poly_init (self'.coefs.map fun (x1 : Int) => (x1 * factor'.num)) (self'.den * factor'.den))
noncomputable def q_Poly_scaled (self' : Po) (factor' : Fr) : Po :=
  q_Poly_scaled_0 self' factor'
def v_Poly_scaled (self' : Po) (factor' : Fr) : Prop :=
  v_Poly_scaled_0 self' factor'
noncomputable def q_law_trimmed_2 (coefs_here' : List Int) (size' : Int) : Int :=
  (size' - (1 : Int))
noncomputable def q_law_trimmed_3 (coefs_here' : List Int) (size' : Int) : Int :=
  wh (fun (s1 : Int) => ((decide (s1 > (0 : Int))) && (decide ((gt coefs_here' (s1 - (1 : Int))) = (0 : Int))))) (fun (s1 : Int) => q_law_trimmed_2 coefs_here' s1) size'
noncomputable def q_law_trimmed_4 (coefs_here' : List Int) (size' : Int) : List Int :=
  (cutT coefs_here' none (some size'))
noncomputable def q_law_trimmed_1 (coefs_here' : List Int) (size' : Int) : List Int :=
  q_law_trimmed_4 coefs_here' (q_law_trimmed_3 coefs_here' size')
def v_law_trimmed_1 (coefs_here' : List Int) (size' : Int) : Prop :=
  whV (fun (s1 : Int) => ((decide (s1 > (0 : Int))) && (decide ((gt coefs_here' (s1 - (1 : Int))) = (0 : Int))))) (fun (s1 : Int) => ((decide (s1 > (0 : Int))) = true → inR coefs_here' (s1 - (1 : Int)))) (fun (s1 : Int) => q_law_trimmed_2 coefs_here' s1) (fun (s1 : Int) => True) size'
noncomputable def q_law_trimmed_0 (coefs_here' : List Int) : List Int :=
  q_law_trimmed_1 coefs_here' (coefs_here'.length : Int)
def v_law_trimmed_0 (coefs_here' : List Int) : Prop :=
  v_law_trimmed_1 coefs_here' (coefs_here'.length : Int)
noncomputable def q_law_trimmed (coefs_here' : List Int) : List Int :=
  q_law_trimmed_0 coefs_here'
def v_law_trimmed (coefs_here' : List Int) : Prop :=
  v_law_trimmed_0 coefs_here'
noncomputable def q_Poly_is_zero_0 (self' : Po) : Bool :=
  (decide ((self'.coefs.length : Int) = (0 : Int)))
noncomputable def q_Poly_is_zero (self' : Po) : Bool :=
  q_Poly_is_zero_0 self'
noncomputable def q_divide_11 (p' : Po) (q' : Po) (size' : Int) (lead' : Int) (rest' : List Int) (quotient' : List Int) (scale' : Int) (place' : Int) (top' : Int) (i' : Int) : (List Int) :=
  setT rest' (place' + i') ((gt rest' (place' + i')) - (top' * (gt q'.coefs i')))
def v_divide_11 (p' : Po) (q' : Po) (size' : Int) (lead' : Int) (rest' : List Int) (quotient' : List Int) (scale' : Int) (place' : Int) (top' : Int) (i' : Int) : Prop :=
  (inR rest' (place' + i') ∧ inR q'.coefs i' ∧ mulOk top' (gt q'.coefs i') = true ∧ inR rest' (place' + i'))
noncomputable def q_divide_12 (p' : Po) (q' : Po) (size' : Int) (lead' : Int) (rest' : List Int) (quotient' : List Int) (scale' : Int) (place' : Int) (top' : Int) : (List Int) :=
  (rngT 0 size').foldl (fun (s8 : (List Int)) (x9 : Int) => q_divide_11 p' q' size' lead' s8 quotient' scale' place' top' x9) rest'
noncomputable def q_divide_14 (p' : Po) (q' : Po) (size' : Int) (lead' : Int) (rest' : List Int) (quotient' : List Int) (scale' : Int) : (List Int) × (List Int) × Int :=
  (rest', quotient', (scale' * lead'))
def v_divide_14 (p' : Po) (q' : Po) (size' : Int) (lead' : Int) (rest' : List Int) (quotient' : List Int) (scale' : Int) : Prop :=
  mulOk scale' lead' = true
noncomputable def q_divide_13 (p' : Po) (q' : Po) (size' : Int) (lead' : Int) (rest' : List Int) (quotient' : List Int) (scale' : Int) (place' : Int) (top' : Int) : (List Int) × (List Int) × Int :=
  q_divide_14 p' q' size' lead' rest' (setT quotient' place' ((gt quotient' place') + top')) scale'
def v_divide_13 (p' : Po) (q' : Po) (size' : Int) (lead' : Int) (rest' : List Int) (quotient' : List Int) (scale' : Int) (place' : Int) (top' : Int) : Prop :=
  (inR quotient' place' ∧ inR quotient' place' ∧ v_divide_14 p' q' size' lead' rest' (setT quotient' place' ((gt quotient' place') + top')) scale')
noncomputable def q_divide_10 (p' : Po) (q' : Po) (size' : Int) (lead' : Int) (rest' : List Int) (quotient' : List Int) (scale' : Int) (place' : Int) (top' : Int) : (List Int) × (List Int) × Int :=
  q_divide_13 p' q' size' lead' (q_divide_12 p' q' size' lead' rest' quotient' scale' place' top') quotient' scale' place' top'
def v_divide_10 (p' : Po) (q' : Po) (size' : Int) (lead' : Int) (rest' : List Int) (quotient' : List Int) (scale' : Int) (place' : Int) (top' : Int) : Prop :=
  (rOk size' = true ∧ forV (fun (s8 : (List Int)) (x9 : Int) => v_divide_11 p' q' size' lead' s8 quotient' scale' place' top' x9) (fun (s8 : (List Int)) (x9 : Int) => q_divide_11 p' q' size' lead' s8 quotient' scale' place' top' x9) (rngT 0 size') rest' ∧ v_divide_13 p' q' size' lead' (q_divide_12 p' q' size' lead' rest' quotient' scale' place' top') quotient' scale' place' top')
noncomputable def q_divide_9 (p' : Po) (q' : Po) (size' : Int) (lead' : Int) (rest' : List Int) (quotient' : List Int) (scale' : Int) (place' : Int) (top' : Int) : (List Int) × (List Int) × Int :=
  q_divide_10 p' q' size' lead' rest' (quotient'.map fun (x6 : Int) => (lead' * x6)) scale' place' top'
def v_divide_9 (p' : Po) (q' : Po) (size' : Int) (lead' : Int) (rest' : List Int) (quotient' : List Int) (scale' : Int) (place' : Int) (top' : Int) : Prop :=
  ((∀ x6, x6 ∈ quotient' → mulOk lead' x6 = true) ∧ quotient'.length ≤ LINE ∧ v_divide_10 p' q' size' lead' rest' (quotient'.map fun (x6 : Int) => (lead' * x6)) scale' place' top')
noncomputable def q_divide_8 (p' : Po) (q' : Po) (size' : Int) (lead' : Int) (rest' : List Int) (quotient' : List Int) (scale' : Int) (place' : Int) (top' : Int) : (List Int) × (List Int) × Int :=
  q_divide_9 p' q' size' lead' (rest'.map fun (x4 : Int) => (lead' * x4)) quotient' scale' place' top'
def v_divide_8 (p' : Po) (q' : Po) (size' : Int) (lead' : Int) (rest' : List Int) (quotient' : List Int) (scale' : Int) (place' : Int) (top' : Int) : Prop :=
  ((∀ x4, x4 ∈ rest' → mulOk lead' x4 = true) ∧ rest'.length ≤ LINE ∧ v_divide_9 p' q' size' lead' (rest'.map fun (x4 : Int) => (lead' * x4)) quotient' scale' place' top')
noncomputable def q_divide_7 (p' : Po) (q' : Po) (size' : Int) (lead' : Int) (rest' : List Int) (quotient' : List Int) (scale' : Int) (place' : Int) : (List Int) × (List Int) × Int :=
  q_divide_8 p' q' size' lead' rest' quotient' scale' place' (gt rest' ((place' + size') - (1 : Int)))
def v_divide_7 (p' : Po) (q' : Po) (size' : Int) (lead' : Int) (rest' : List Int) (quotient' : List Int) (scale' : Int) (place' : Int) : Prop :=
  (inR rest' ((place' + size') - (1 : Int)) ∧ v_divide_8 p' q' size' lead' rest' quotient' scale' place' (gt rest' ((place' + size') - (1 : Int))))
noncomputable def q_divide_15 (p' : Po) (q' : Po) (size' : Int) (lead' : Int) (rest' : List Int) (quotient' : List Int) (scale' : Int) : (List Int) × (List Int) × Int :=
  (rngDT ((quotient'.length : Int) - (1 : Int)) (-(1 : Int))).foldl (fun (s11 : (List Int) × (List Int) × Int) (x12 : Int) => q_divide_7 p' q' size' lead' s11.1 s11.2.1 s11.2.2 x12) (rest', quotient', scale')
noncomputable def q_divide_17 (q' : Po) (rest' : List Int) (quotient' : List Int) (den' : Int) : Po × Po :=
  (q_Poly_init (quotient'.map fun (x14 : Int) => (x14 * q'.den)) den', q_Poly_init rest' den')
def v_divide_17 (q' : Po) (rest' : List Int) (quotient' : List Int) (den' : Int) : Prop :=
  ((∀ x14, x14 ∈ quotient' → mulOk x14 q'.den = true) ∧ quotient'.length ≤ LINE ∧ v_Poly_init (quotient'.map fun (x14 : Int) => (x14 * q'.den)) den' ∧ v_Poly_init rest' den')
noncomputable def q_divide_16 (p' : Po) (q' : Po) (rest' : List Int) (quotient' : List Int) (scale' : Int) : Po × Po :=
  q_divide_17 q' rest' quotient' (scale' * p'.den)
def v_divide_16 (p' : Po) (q' : Po) (rest' : List Int) (quotient' : List Int) (scale' : Int) : Prop :=
  (mulOk scale' p'.den = true ∧ v_divide_17 q' rest' quotient' (scale' * p'.den))
noncomputable def q_divide_6 (p' : Po) (q' : Po) (size' : Int) (lead' : Int) (rest' : List Int) (quotient' : List Int) (scale' : Int) : Po × Po :=
  q_divide_16 p' q' ((q_divide_15 p' q' size' lead' rest' quotient' scale').1) ((q_divide_15 p' q' size' lead' rest' quotient' scale').2.1) ((q_divide_15 p' q' size' lead' rest' quotient' scale').2.2)
def v_divide_6 (p' : Po) (q' : Po) (size' : Int) (lead' : Int) (rest' : List Int) (quotient' : List Int) (scale' : Int) : Prop :=
  (rOk ((quotient'.length : Int) - (1 : Int)) = true ∧ forV (fun (s11 : (List Int) × (List Int) × Int) (x12 : Int) => v_divide_7 p' q' size' lead' s11.1 s11.2.1 s11.2.2 x12) (fun (s11 : (List Int) × (List Int) × Int) (x12 : Int) => q_divide_7 p' q' size' lead' s11.1 s11.2.1 s11.2.2 x12) (rngDT ((quotient'.length : Int) - (1 : Int)) (-(1 : Int))) (rest', quotient', scale') ∧ v_divide_16 p' q' ((q_divide_15 p' q' size' lead' rest' quotient' scale').1) ((q_divide_15 p' q' size' lead' rest' quotient' scale').2.1) ((q_divide_15 p' q' size' lead' rest' quotient' scale').2.2))
noncomputable def q_divide_5 (p' : Po) (q' : Po) (size' : Int) (lead' : Int) (rest' : List Int) (quotient' : List Int) : Po × Po :=
  q_divide_6 p' q' size' lead' rest' quotient' (1 : Int)
def v_divide_5 (p' : Po) (q' : Po) (size' : Int) (lead' : Int) (rest' : List Int) (quotient' : List Int) : Prop :=
  v_divide_6 p' q' size' lead' rest' quotient' (1 : Int)
noncomputable def q_divide_4 (p' : Po) (q' : Po) (size' : Int) (lead' : Int) (rest' : List Int) : Po × Po :=
  q_divide_5 p' q' size' lead' rest' ((rngT 0 (((rest'.length : Int) - size') + (1 : Int))).map fun (x2 : Int) => (0 : Int))
def v_divide_4 (p' : Po) (q' : Po) (size' : Int) (lead' : Int) (rest' : List Int) : Prop :=
  (rOk (((rest'.length : Int) - size') + (1 : Int)) = true ∧ (rngT 0 (((rest'.length : Int) - size') + (1 : Int))).length ≤ LINE ∧ v_divide_5 p' q' size' lead' rest' ((rngT 0 (((rest'.length : Int) - size') + (1 : Int))).map fun (x2 : Int) => (0 : Int)))
noncomputable def q_divide_3 (p' : Po) (q' : Po) (size' : Int) (lead' : Int) : Po × Po :=
  q_divide_4 p' q' size' lead' p'.coefs
def v_divide_3 (p' : Po) (q' : Po) (size' : Int) (lead' : Int) : Prop :=
  v_divide_4 p' q' size' lead' p'.coefs
noncomputable def q_divide_2 (p' : Po) (q' : Po) (size' : Int) : Po × Po :=
  q_divide_3 p' q' size' (gt q'.coefs (size' - (1 : Int)))
def v_divide_2 (p' : Po) (q' : Po) (size' : Int) : Prop :=
  (inR q'.coefs (size' - (1 : Int)) ∧ v_divide_3 p' q' size' (gt q'.coefs (size' - (1 : Int))))
noncomputable def q_divide_1 (p' : Po) (q' : Po) : Po × Po :=
  q_divide_2 p' q' (q'.coefs.length : Int)
def v_divide_1 (p' : Po) (q' : Po) : Prop :=
  v_divide_2 p' q' (q'.coefs.length : Int)
noncomputable def q_divide_0 (p' : Po) (q' : Po) : Po × Po :=
  q_divide_1 p' q'
def v_divide_0 (p' : Po) (q' : Po) : Prop :=
  ((q_Poly_is_zero q') = false ∧ v_divide_1 p' q')
noncomputable def q_divide (p' : Po) (q' : Po) : Po × Po :=
  q_divide_0 p' q'
def v_divide (p' : Po) (q' : Po) : Prop :=
  v_divide_0 p' q'
noncomputable def q_content_x2_2 (divisor' : Int) (number' : Int) : Int :=
  (Int.gcd divisor' number' : Int)
noncomputable def q_content_x2_3 (numbers' : List Int) (divisor' : Int) : Int :=
  numbers'.foldl (fun (s1 : Int) (x2 : Int) => q_content_x2_2 s1 x2) divisor'
noncomputable def q_content_x2_4 (divisor' : Int) : Int :=
  divisor'
noncomputable def q_content_x2_1 (numbers' : List Int) (divisor' : Int) : Int :=
  q_content_x2_4 (q_content_x2_3 numbers' divisor')
noncomputable def q_content_x2_0 (numbers' : List Int) : Int :=
  q_content_x2_1 numbers' (0 : Int)
noncomputable def q_content_x2 (numbers' : List Int) : Int :=
  q_content_x2_0 numbers'
noncomputable def q_Poly_init_x2_4 (den' : Int) (numbers' : List Int) (divisor' : Int) : Int :=
  (-divisor')
noncomputable def q_Poly_init_x2_5 (den' : Int) (numbers' : List Int) (divisor' : Int) : Int :=
  if (decide (den' < (0 : Int))) then q_Poly_init_x2_4 den' numbers' divisor' else divisor'
noncomputable def q_Poly_init_x2_7 (den' : Int) (divisor' : Int) (sf_coefs : List Int) : (List Int) × Int :=
  (sf_coefs, (Int.fdiv den' divisor'))
def v_Poly_init_x2_7 (den' : Int) (divisor' : Int) (sf_coefs : List Int) : Prop :=
  divisor' ≠ 0
noncomputable def q_Poly_init_x2_6 (den' : Int) (numbers' : List Int) (divisor' : Int) : (List Int) × Int :=
  q_Poly_init_x2_7 den' divisor' (numbers'.map fun (x3 : Int) => (Int.fdiv x3 divisor'))
def v_Poly_init_x2_6 (den' : Int) (numbers' : List Int) (divisor' : Int) : Prop :=
  ((∀ x3, x3 ∈ numbers' → divisor' ≠ 0) ∧ numbers'.length ≤ LINE ∧ v_Poly_init_x2_7 den' divisor' (numbers'.map fun (x3 : Int) => (Int.fdiv x3 divisor')))
noncomputable def q_Poly_init_x2_3 (den' : Int) (numbers' : List Int) (divisor' : Int) : (List Int) × Int :=
  q_Poly_init_x2_6 den' numbers' (q_Poly_init_x2_5 den' numbers' divisor')
def v_Poly_init_x2_3 (den' : Int) (numbers' : List Int) (divisor' : Int) : Prop :=
  v_Poly_init_x2_6 den' numbers' (q_Poly_init_x2_5 den' numbers' divisor')
noncomputable def q_Poly_init_x2_2 (den' : Int) (numbers' : List Int) : (List Int) × Int :=
  q_Poly_init_x2_3 den' numbers' (Int.gcd (q_content numbers') den' : Int)
def v_Poly_init_x2_2 (den' : Int) (numbers' : List Int) : Prop :=
  v_Poly_init_x2_3 den' numbers' (Int.gcd (q_content numbers') den' : Int)
noncomputable def q_Poly_init_x2_1 (coefs' : List Int) (den' : Int) : (List Int) × Int :=
  q_Poly_init_x2_2 den' (q_trimmed coefs')
def v_Poly_init_x2_1 (coefs' : List Int) (den' : Int) : Prop :=
  (v_trimmed coefs' ∧ v_Poly_init_x2_2 den' (q_trimmed coefs'))
noncomputable def q_Poly_init_x2_0 (coefs' : List Int) (den' : Int) : (List Int) × Int :=
  q_Poly_init_x2_1 coefs' den'
def v_Poly_init_x2_0 (coefs' : List Int) (den' : Int) : Prop :=
  ((decide (den' = (0 : Int))) = false ∧ v_Poly_init_x2_1 coefs' den')
noncomputable def q_Poly_init_x2 (coefs' : List Int) (den' : Int) : Po :=
  ⟨(q_Poly_init_x2_0 coefs' den').1, (q_Poly_init_x2_0 coefs' den').2⟩
def v_Poly_init_x2 (coefs' : List Int) (den' : Int) : Prop :=
  v_Poly_init_x2_0 coefs' den'
noncomputable def q_primitive_1 (p' : Po) : Po :=
  p'
noncomputable def q_primitive_2 (p' : Po) : Po :=
  q_Poly_init_x2 p'.coefs (q_content_x2 p'.coefs)
def v_primitive_2 (p' : Po) : Prop :=
  v_Poly_init_x2 p'.coefs (q_content_x2 p'.coefs)
noncomputable def q_primitive_0 (p' : Po) : Po :=
  if q_Poly_is_zero p' then q_primitive_1 p' else q_primitive_2 p'
def v_primitive_0 (p' : Po) : Prop :=
  ((q_Poly_is_zero p') = false → v_primitive_2 p')
noncomputable def q_primitive (p' : Po) : Po :=
  q_primitive_0 p'
def v_primitive (p' : Po) : Prop :=
  v_primitive_0 p'
noncomputable def q_Poly_lead_1  : Fr :=
  q_Fraction_init (0 : Int) (1 : Int)
def v_Poly_lead_1  : Prop :=
  v_Fraction_init (0 : Int) (1 : Int)
noncomputable def q_Poly_lead_2 (self' : Po) : Fr :=
  q_Fraction_init (gt self'.coefs (-(1 : Int))) self'.den
def v_Poly_lead_2 (self' : Po) : Prop :=
  (inR self'.coefs (-(1 : Int)) ∧ v_Fraction_init (gt self'.coefs (-(1 : Int))) self'.den)
noncomputable def q_Poly_lead_0 (self' : Po) : Fr :=
  if (decide ((self'.coefs.length : Int) = (0 : Int))) then q_Poly_lead_1 else q_Poly_lead_2 self'
def v_Poly_lead_0 (self' : Po) : Prop :=
  (((decide ((self'.coefs.length : Int) = (0 : Int))) = true → v_Poly_lead_1) ∧ ((decide ((self'.coefs.length : Int) = (0 : Int))) = false → v_Poly_lead_2 self'))
noncomputable def q_Poly_lead (self' : Po) : Fr :=
  q_Poly_lead_0 self'
def v_Poly_lead (self' : Po) : Prop :=
  v_Poly_lead_0 self'
noncomputable def q_Fraction_over_1 (self' : Fr) (other' : Fr) : Fr :=
  q_Fraction_init (self'.num * other'.den) (self'.den * other'.num)
def v_Fraction_over_1 (self' : Fr) (other' : Fr) : Prop :=
  (mulOk self'.num other'.den = true ∧ mulOk self'.den other'.num = true ∧ v_Fraction_init (self'.num * other'.den) (self'.den * other'.num))
noncomputable def q_Fraction_over_0 (self' : Fr) (other' : Fr) : Fr :=
  q_Fraction_over_1 self' other'
def v_Fraction_over_0 (self' : Fr) (other' : Fr) : Prop :=
  ((decide (other'.num = (0 : Int))) = false ∧ v_Fraction_over_1 self' other')
noncomputable def q_Fraction_over (self' : Fr) (other' : Fr) : Fr :=
  q_Fraction_over_0 self' other'
def v_Fraction_over (self' : Fr) (other' : Fr) : Prop :=
  v_Fraction_over_0 self' other'
noncomputable def q_monic_1 (p' : Po) : Po :=
  p'
noncomputable def q_monic_2 (p' : Po) : Po :=
  q_Poly_scaled p' (q_Fraction_over (q_Fraction_init (1 : Int) (1 : Int)) (q_Poly_lead p'))
def v_monic_2 (p' : Po) : Prop :=
  (v_Fraction_init (1 : Int) (1 : Int) ∧ v_Poly_lead p' ∧ v_Fraction_over (q_Fraction_init (1 : Int) (1 : Int)) (q_Poly_lead p') ∧ v_Poly_scaled p' (q_Fraction_over (q_Fraction_init (1 : Int) (1 : Int)) (q_Poly_lead p')))
noncomputable def q_monic_0 (p' : Po) : Po :=
  if q_Poly_is_zero p' then q_monic_1 p' else q_monic_2 p'
def v_monic_0 (p' : Po) : Prop :=
  ((q_Poly_is_zero p') = false → v_monic_2 p')
noncomputable def q_monic (p' : Po) : Po :=
  q_monic_0 p'
def v_monic (p' : Po) : Prop :=
  v_monic_0 p'
noncomputable def q_common_divisor_5 (first' : Po) (second' : Po) (rest' : Po) : Po × Po :=
  (first', q_primitive rest')
def v_common_divisor_5 (first' : Po) (second' : Po) (rest' : Po) : Prop :=
  v_primitive rest'
noncomputable def q_common_divisor_4 (first' : Po) (second' : Po) (rest' : Po) : Po × Po :=
  q_common_divisor_5 second' second' rest'
def v_common_divisor_4 (first' : Po) (second' : Po) (rest' : Po) : Prop :=
  v_common_divisor_5 second' second' rest'
noncomputable def q_common_divisor_3 (first' : Po) (second' : Po) : Po × Po :=
  q_common_divisor_4 first' second' ((q_divide first' second').2)
def v_common_divisor_3 (first' : Po) (second' : Po) : Prop :=
  (v_divide first' second' ∧ v_common_divisor_4 first' second' ((q_divide first' second').2))
noncomputable def q_common_divisor_6 (first' : Po) (second' : Po) : Po × Po :=
  wh (fun (s1 : Po × Po) => (!(q_Poly_is_zero s1.2))) (fun (s1 : Po × Po) => q_common_divisor_3 s1.1 s1.2) (first', second')
noncomputable def q_common_divisor_7 (first' : Po) : Po :=
  q_monic first'
def v_common_divisor_7 (first' : Po) : Prop :=
  v_monic first'
noncomputable def q_common_divisor_2 (first' : Po) (second' : Po) : Po :=
  q_common_divisor_7 ((q_common_divisor_6 first' second').1)
def v_common_divisor_2 (first' : Po) (second' : Po) : Prop :=
  (whV (fun (s1 : Po × Po) => (!(q_Poly_is_zero s1.2))) (fun (s1 : Po × Po) => True) (fun (s1 : Po × Po) => q_common_divisor_3 s1.1 s1.2) (fun (s1 : Po × Po) => v_common_divisor_3 s1.1 s1.2) (first', second') ∧ v_common_divisor_7 ((q_common_divisor_6 first' second').1))
noncomputable def q_common_divisor_1 (q' : Po) (first' : Po) : Po :=
  q_common_divisor_2 first' (q_primitive q')
def v_common_divisor_1 (q' : Po) (first' : Po) : Prop :=
  (v_primitive q' ∧ v_common_divisor_2 first' (q_primitive q'))
noncomputable def q_common_divisor_0 (p' : Po) (q' : Po) : Po :=
  q_common_divisor_1 q' (q_primitive p')
def v_common_divisor_0 (p' : Po) (q' : Po) : Prop :=
  (v_primitive p' ∧ v_common_divisor_1 q' (q_primitive p'))
noncomputable def q_common_divisor (p' : Po) (q' : Po) : Po :=
  q_common_divisor_0 p' q'
def v_common_divisor (p' : Po) (q' : Po) : Prop :=
  v_common_divisor_0 p' q'
noncomputable def q_law_reduced_2 (p' : List Int) (shared' : Int) (number' : Int) : Int :=
  q_law_divisor shared' number'
def v_law_reduced_2 (p' : List Int) (shared' : Int) (number' : Int) : Prop :=
  v_law_divisor shared' number'
noncomputable def q_law_reduced_3 (p' : List Int) (shared' : Int) : Int :=
  p'.foldl (fun (s1 : Int) (x2 : Int) => q_law_reduced_2 p' s1 x2) shared'
noncomputable def q_law_reduced_5  : List Int :=
  ([] : List Int)
noncomputable def q_law_reduced_6 (p' : List Int) (shared' : Int) : List Int :=
  (p'.map fun (x5 : Int) => (Int.fdiv x5 shared'))
def v_law_reduced_6 (p' : List Int) (shared' : Int) : Prop :=
  ((∀ x5, x5 ∈ p' → shared' ≠ 0) ∧ p'.length ≤ LINE)
noncomputable def q_law_reduced_4 (p' : List Int) (shared' : Int) : List Int :=
  if (decide (shared' = (0 : Int))) then q_law_reduced_5 else q_law_reduced_6 p' shared'
def v_law_reduced_4 (p' : List Int) (shared' : Int) : Prop :=
  ((decide (shared' = (0 : Int))) = false → v_law_reduced_6 p' shared')
noncomputable def q_law_reduced_1 (p' : List Int) (shared' : Int) : List Int :=
  q_law_reduced_4 p' (q_law_reduced_3 p' shared')
def v_law_reduced_1 (p' : List Int) (shared' : Int) : Prop :=
  (forV (fun (s1 : Int) (x2 : Int) => v_law_reduced_2 p' s1 x2) (fun (s1 : Int) (x2 : Int) => q_law_reduced_2 p' s1 x2) p' shared' ∧ v_law_reduced_4 p' (q_law_reduced_3 p' shared'))
noncomputable def q_law_reduced_0 (p' : List Int) : List Int :=
  q_law_reduced_1 p' (0 : Int)
def v_law_reduced_0 (p' : List Int) : Prop :=
  v_law_reduced_1 p' (0 : Int)
noncomputable def q_law_reduced (p' : List Int) : List Int :=
  q_law_reduced_0 p'
def v_law_reduced (p' : List Int) : Prop :=
  v_law_reduced_0 p'
noncomputable def q_law_rest_7 (q' : List Int) (rest_here' : List Int) (top' : Int) (place' : Int) (i' : Int) : (List Int) :=
  setT rest_here' (place' + i') ((gt rest_here' (place' + i')) - (top' * (gt q' i')))
def v_law_rest_7 (q' : List Int) (rest_here' : List Int) (top' : Int) (place' : Int) (i' : Int) : Prop :=
  (inR rest_here' (place' + i') ∧ inR q' i' ∧ mulOk top' (gt q' i') = true ∧ inR rest_here' (place' + i'))
noncomputable def q_law_rest_8 (q' : List Int) (rest_here' : List Int) (top' : Int) (place' : Int) : (List Int) :=
  (rngT 0 (q'.length : Int)).foldl (fun (s4 : (List Int)) (x5 : Int) => q_law_rest_7 q' s4 top' place' x5) rest_here'
noncomputable def q_law_rest_9 (q' : List Int) (rest_here' : List Int) : (List Int) :=
  (cutT rest_here' none (some (-(1 : Int))))
noncomputable def q_law_rest_6 (q' : List Int) (rest_here' : List Int) (top' : Int) (place' : Int) : (List Int) :=
  q_law_rest_9 q' (q_law_rest_8 q' rest_here' top' place')
def v_law_rest_6 (q' : List Int) (rest_here' : List Int) (top' : Int) (place' : Int) : Prop :=
  (rOk (q'.length : Int) = true ∧ forV (fun (s4 : (List Int)) (x5 : Int) => v_law_rest_7 q' s4 top' place' x5) (fun (s4 : (List Int)) (x5 : Int) => q_law_rest_7 q' s4 top' place' x5) (rngT 0 (q'.length : Int)) rest_here')
noncomputable def q_law_rest_5 (q' : List Int) (rest_here' : List Int) (top' : Int) (place' : Int) : (List Int) :=
  q_law_rest_6 q' (rest_here'.map fun (x2 : Int) => ((gt q' (-(1 : Int))) * x2)) top' place'
def v_law_rest_5 (q' : List Int) (rest_here' : List Int) (top' : Int) (place' : Int) : Prop :=
  ((∀ x2, x2 ∈ rest_here' → (inR q' (-(1 : Int)) ∧ mulOk (gt q' (-(1 : Int))) x2 = true)) ∧ rest_here'.length ≤ LINE ∧ v_law_rest_6 q' (rest_here'.map fun (x2 : Int) => ((gt q' (-(1 : Int))) * x2)) top' place')
noncomputable def q_law_rest_4 (q' : List Int) (rest_here' : List Int) (top' : Int) : (List Int) :=
  q_law_rest_5 q' rest_here' top' ((rest_here'.length : Int) - (q'.length : Int))
def v_law_rest_4 (q' : List Int) (rest_here' : List Int) (top' : Int) : Prop :=
  v_law_rest_5 q' rest_here' top' ((rest_here'.length : Int) - (q'.length : Int))
noncomputable def q_law_rest_3 (q' : List Int) (rest_here' : List Int) : (List Int) :=
  q_law_rest_4 q' rest_here' (gt rest_here' (-(1 : Int)))
def v_law_rest_3 (q' : List Int) (rest_here' : List Int) : Prop :=
  (inR rest_here' (-(1 : Int)) ∧ v_law_rest_4 q' rest_here' (gt rest_here' (-(1 : Int))))
noncomputable def q_law_rest_2 (q' : List Int) (rest_here' : List Int) : (List Int) :=
  if (decide ((rest_here'.length : Int) ≥ (q'.length : Int))) then q_law_rest_3 q' rest_here' else rest_here'
def v_law_rest_2 (q' : List Int) (rest_here' : List Int) : Prop :=
  ((decide ((rest_here'.length : Int) ≥ (q'.length : Int))) = true → v_law_rest_3 q' rest_here')
noncomputable def q_law_rest_10 (p' : List Int) (q' : List Int) (rest_here' : List Int) : (List Int) :=
  (rngT 0 (p'.length : Int)).foldl (fun (s7 : (List Int)) (x8 : Int) => q_law_rest_2 q' s7) rest_here'
noncomputable def q_law_rest_11 (rest_here' : List Int) : List Int :=
  q_law_trimmed rest_here'
def v_law_rest_11 (rest_here' : List Int) : Prop :=
  v_law_trimmed rest_here'
noncomputable def q_law_rest_1 (p' : List Int) (q' : List Int) (rest_here' : List Int) : List Int :=
  q_law_rest_11 (q_law_rest_10 p' q' rest_here')
def v_law_rest_1 (p' : List Int) (q' : List Int) (rest_here' : List Int) : Prop :=
  (rOk (p'.length : Int) = true ∧ forV (fun (s7 : (List Int)) (x8 : Int) => v_law_rest_2 q' s7) (fun (s7 : (List Int)) (x8 : Int) => q_law_rest_2 q' s7) (rngT 0 (p'.length : Int)) rest_here' ∧ v_law_rest_11 (q_law_rest_10 p' q' rest_here'))
noncomputable def q_law_rest_0 (p' : List Int) (q' : List Int) : List Int :=
  q_law_rest_1 p' q' p'
def v_law_rest_0 (p' : List Int) (q' : List Int) : Prop :=
  v_law_rest_1 p' q' p'
noncomputable def q_law_rest (p' : List Int) (q' : List Int) : List Int :=
  q_law_rest_0 p' q'
def v_law_rest (p' : List Int) (q' : List Int) : Prop :=
  v_law_rest_0 p' q'
noncomputable def q_law_degree_6 (first' : List Int) (second' : List Int) (rest_here' : List Int) : (List Int) × (List Int) :=
  (first', rest_here')
noncomputable def q_law_degree_5 (first' : List Int) (second' : List Int) (rest_here' : List Int) : (List Int) × (List Int) :=
  q_law_degree_6 second' second' rest_here'
noncomputable def q_law_degree_4 (first' : List Int) (second' : List Int) : (List Int) × (List Int) :=
  q_law_degree_5 first' second' (q_law_reduced (q_law_rest first' second'))
def v_law_degree_4 (first' : List Int) (second' : List Int) : Prop :=
  (v_law_rest first' second' ∧ v_law_reduced (q_law_rest first' second'))
noncomputable def q_law_degree_3 (first' : List Int) (second' : List Int) : (List Int) × (List Int) :=
  if (decide ((second'.length : Int) > (0 : Int))) then q_law_degree_4 first' second' else (first', second')
def v_law_degree_3 (first' : List Int) (second' : List Int) : Prop :=
  ((decide ((second'.length : Int) > (0 : Int))) = true → v_law_degree_4 first' second')
noncomputable def q_law_degree_7 (p' : List Int) (q' : List Int) (first' : List Int) (second' : List Int) : (List Int) × (List Int) :=
  (rngT 0 (((p'.length : Int) + (q'.length : Int)) + (2 : Int))).foldl (fun (s3 : (List Int) × (List Int)) (x4 : Int) => q_law_degree_3 s3.1 s3.2) (first', second')
noncomputable def q_law_degree_8 (first' : List Int) : Int :=
  ((first'.length : Int) - (1 : Int))
noncomputable def q_law_degree_2 (p' : List Int) (q' : List Int) (first' : List Int) (second' : List Int) : Int :=
  q_law_degree_8 ((q_law_degree_7 p' q' first' second').1)
def v_law_degree_2 (p' : List Int) (q' : List Int) (first' : List Int) (second' : List Int) : Prop :=
  (rOk (((p'.length : Int) + (q'.length : Int)) + (2 : Int)) = true ∧ forV (fun (s3 : (List Int) × (List Int)) (x4 : Int) => v_law_degree_3 s3.1 s3.2) (fun (s3 : (List Int) × (List Int)) (x4 : Int) => q_law_degree_3 s3.1 s3.2) (rngT 0 (((p'.length : Int) + (q'.length : Int)) + (2 : Int))) (first', second'))
noncomputable def q_law_degree_1 (p' : List Int) (q' : List Int) (first' : List Int) : Int :=
  q_law_degree_2 p' q' first' (q_law_reduced (q_law_trimmed q'))
def v_law_degree_1 (p' : List Int) (q' : List Int) (first' : List Int) : Prop :=
  (v_law_trimmed q' ∧ v_law_reduced (q_law_trimmed q') ∧ v_law_degree_2 p' q' first' (q_law_reduced (q_law_trimmed q')))
noncomputable def q_law_degree_0 (p' : List Int) (q' : List Int) : Int :=
  q_law_degree_1 p' q' (q_law_reduced (q_law_trimmed p'))
def v_law_degree_0 (p' : List Int) (q' : List Int) : Prop :=
  (v_law_trimmed p' ∧ v_law_reduced (q_law_trimmed p') ∧ v_law_degree_1 p' q' (q_law_reduced (q_law_trimmed p')))
noncomputable def q_law_degree (p' : List Int) (q' : List Int) : Int :=
  q_law_degree_0 p' q'
def v_law_degree (p' : List Int) (q' : List Int) : Prop :=
  v_law_degree_0 p' q'
noncomputable def q_Poly_eq_0 (self' : Po) (other' : Po) : Bool :=
  (true && ((decide (self'.coefs = other'.coefs)) && (decide (self'.den = other'.den))))
noncomputable def q_Poly_eq (self' : Po) (other' : Po) : Bool :=
  q_Poly_eq_0 self' other'
noncomputable def q_Quotient_eq_0 (self' : Qt) (other' : Qt) : Bool :=
  (true && ((q_Poly_eq self'.num other'.num) && (q_Poly_eq self'.den other'.den)))
noncomputable def q_Quotient_eq (self' : Qt) (other' : Qt) : Bool :=
  q_Quotient_eq_0 self' other'
noncomputable def q_common_divisor_of_2 (result' : Po) (p' : Po) : Po :=
  q_common_divisor result' p'
def v_common_divisor_of_2 (result' : Po) (p' : Po) : Prop :=
  v_common_divisor result' p'
noncomputable def q_common_divisor_of_3 (polys' : List Po) (result' : Po) : Po :=
  polys'.foldl (fun (s1 : Po) (x2 : Po) => q_common_divisor_of_2 s1 x2) result'
noncomputable def q_common_divisor_of_4 (result' : Po) : Po :=
  result'
noncomputable def q_common_divisor_of_1 (polys' : List Po) (result' : Po) : Po :=
  q_common_divisor_of_4 (q_common_divisor_of_3 polys' result')
def v_common_divisor_of_1 (polys' : List Po) (result' : Po) : Prop :=
  forV (fun (s1 : Po) (x2 : Po) => v_common_divisor_of_2 s1 x2) (fun (s1 : Po) (x2 : Po) => q_common_divisor_of_2 s1 x2) polys' result'
noncomputable def q_common_divisor_of_0 (polys' : List Po) : Po :=
  q_common_divisor_of_1 polys' (q_Poly_init ([] : List Int) (1 : Int))
def v_common_divisor_of_0 (polys' : List Po) : Prop :=
  (v_Poly_init ([] : List Int) (1 : Int) ∧ v_common_divisor_of_1 polys' (q_Poly_init ([] : List Int) (1 : Int)))
noncomputable def q_common_divisor_of (polys' : List Po) : Po :=
  q_common_divisor_of_0 polys'
def v_common_divisor_of (polys' : List Po) : Prop :=
  v_common_divisor_of_0 polys'
end Pd
set_option maxHeartbeats 2000000
namespace Pd
open PySem PySem.Spec L2
def frS (n d : Int) : Int := if d < 0 then -(Int.gcd n d : Int) else (Int.gcd n d : Int)
def frP (n d : Int) : Int := n.fdiv (frS n d)
def frQ (n d : Int) : Int := d.fdiv (frS n d)
theorem gcd_pos' {n d : Int} (hd : d ≠ 0) : 0 < (Int.gcd n d : Int) := by
  have : 0 < Int.gcd n d := Int.gcd_pos_of_ne_zero_right n hd
  omega
theorem frS_ne {n d : Int} (hd : d ≠ 0) : frS n d ≠ 0 := by
  have := gcd_pos' (n := n) hd
  unfold frS
  split <;> omega
theorem frS_dvd_n (n d : Int) : frS n d ∣ n := by
  unfold frS
  split
  · exact Int.neg_dvd.mpr (Int.gcd_dvd_left ..)
  · exact Int.gcd_dvd_left ..
theorem frS_dvd_d (n d : Int) : frS n d ∣ d := by
  unfold frS
  split
  · exact Int.neg_dvd.mpr (Int.gcd_dvd_right ..)
  · exact Int.gcd_dvd_right ..
theorem frP_mul {n d : Int} (hd : d ≠ 0) : frP n d * frS n d = n := by
  unfold frP
  obtain ⟨k, hk⟩ := frS_dvd_n n d
  have hs := frS_ne (n := n) hd
  generalize frS n d = s at *
  have : n.fdiv s = k := by rw [hk, Int.mul_comm, Int.mul_fdiv_cancel _ hs]
  rw [this, Int.mul_comm, ← hk]
theorem frQ_mul {n d : Int} (hd : d ≠ 0) : frQ n d * frS n d = d := by
  unfold frQ
  obtain ⟨k, hk⟩ := frS_dvd_d n d
  have hs := frS_ne (n := n) hd
  generalize frS n d = s at *
  have : d.fdiv s = k := by rw [hk, Int.mul_comm, Int.mul_fdiv_cancel _ hs]
  rw [this, Int.mul_comm, ← hk]
theorem frQ_pos {n d : Int} (hd : d ≠ 0) : 0 < frQ n d := by
  have h := frQ_mul (n := n) hd
  have g := gcd_pos' (n := n) hd
  rcases Int.lt_or_gt_of_ne hd with h0 | h0
  · have hs : frS n d < 0 := by unfold frS; rw [if_pos h0]; omega
    rcases Int.lt_trichotomy (frQ n d) 0 with q | q | q
    · have := Int.mul_pos_of_neg_of_neg q hs
      omega
    · rw [q, Int.zero_mul] at h; omega
    · exact q
  · have hs : 0 < frS n d := by unfold frS; rw [if_neg (by omega)]; omega
    rcases Int.lt_trichotomy (frQ n d) 0 with q | q | q
    · have := Int.mul_neg_of_neg_of_pos q hs
      omega
    · rw [q, Int.zero_mul] at h; omega
    · exact q
theorem fr_cross {n d : Int} (hd : d ≠ 0) : frP n d * d = n * frQ n d := by
  have h1 := frP_mul (n := n) hd
  have h2 := frQ_mul (n := n) hd
  calc frP n d * d = frP n d * (frQ n d * frS n d) := by rw [h2]
    _ = (frP n d * frS n d) * frQ n d := by rw [Int.mul_comm (frQ n d), ← Int.mul_assoc]
    _ = n * frQ n d := by rw [h1]
theorem fr_gcd {n d : Int} (hd : d ≠ 0) : Int.gcd (frP n d) (frQ n d) = 1 := by
  have h1 := frP_mul (n := n) hd
  have h2 := frQ_mul (n := n) hd
  have h3 : Int.gcd (frP n d * frS n d) (frQ n d * frS n d) = Int.gcd (frP n d) (frQ n d) * (frS n d).natAbs := Int.gcd_mul_right ..
  rw [h1, h2] at h3
  have h4 : (frS n d).natAbs = Int.gcd n d := by unfold frS; split <;> simp
  rw [h4] at h3
  have hp : 0 < Int.gcd n d := Int.gcd_pos_of_ne_zero_right n hd
  have := Nat.eq_of_mul_eq_mul_right hp (show Int.gcd (frP n d) (frQ n d) * Int.gcd n d = 1 * Int.gcd n d by omega)
  exact this
theorem natAbs_le_of_mul {a b c : Int} (h : a * b = c) (hb : b ≠ 0) : a.natAbs ≤ c.natAbs := by
  rw [← h, Int.natAbs_mul]
  exact Nat.le_mul_of_pos_right _ (Int.natAbs_pos.mpr hb)
theorem frP_le {n d : Int} (hd : d ≠ 0) : (frP n d).natAbs ≤ n.natAbs := natAbs_le_of_mul (frP_mul hd) (frS_ne hd)
theorem frQ_le {n d : Int} (hd : d ≠ 0) : (frQ n d).natAbs ≤ d.natAbs := natAbs_le_of_mul (frQ_mul hd) (frS_ne hd)
theorem coprime_dvd {p q r : Int} (hg : Int.gcd p q = 1) (h : q ∣ p * r) : q ∣ r := by
  have h1 : q.natAbs ∣ p.natAbs * r.natAbs := by
    rw [← Int.natAbs_mul]
    exact Int.natAbs_dvd_natAbs.mpr h
  have h2 : Nat.Coprime q.natAbs p.natAbs := by
    have : Nat.gcd p.natAbs q.natAbs = 1 := hg
    rw [Nat.gcd_comm] at this
    exact this
  exact Int.natAbs_dvd_natAbs.mp (Nat.Coprime.dvd_of_dvd_mul_left h2 h1)
theorem fr_canon {N D N' D' : Int} (hD : D ≠ 0) (hD' : D' ≠ 0) (h : N * D' = N' * D) : frP N D = frP N' D' ∧ frQ N D = frQ N' D' := by
  have a1 := fr_cross (n := N) hD
  have a2 := fr_cross (n := N') hD'
  have b1 := frQ_pos (n := N) hD
  have b2 := frQ_pos (n := N') hD'
  have c1 := fr_gcd (n := N) hD
  have c2 := fr_gcd (n := N') hD'
  generalize frP N D = p at *
  generalize frQ N D = q at *
  generalize frP N' D' = p' at *
  generalize frQ N' D' = q' at *
  have k : p * q' = p' * q := by
    refine Int.eq_of_mul_eq_mul_left (Int.mul_ne_zero hD hD') ?_
    grind
  have d1 : q ∣ q' := coprime_dvd c1 ⟨p', by rw [k, Int.mul_comm]⟩
  have d2 : q' ∣ q := coprime_dvd c2 ⟨p, by rw [← k, Int.mul_comm]⟩
  have e : q = q' := Int.le_antisymm (Int.le_of_dvd b2 d1) (Int.le_of_dvd b1 d2)
  subst e
  exact ⟨Int.eq_of_mul_eq_mul_right (by omega) k, rfl⟩
theorem Sm.up {x : Int} {a b : Nat} (h : Sm x a) (l : a ≤ b) : Sm x b := ⟨Nat.lt_of_lt_of_le h.lt (Nat.pow_le_pow_right (by decide) l), Nat.lt_of_lt_of_le h.pos l⟩
abbrev iL (xs : List Int) : List Dt := xs.map Dt.int
def co (xs : List Int) (k : Nat) : Int := xs.getD k 0
theorem co_nil (k : Nat) : co [] k = 0 := by simp [co]
theorem co_succ (a : Int) (xs : List Int) (k : Nat) : co (a :: xs) (k + 1) = co xs k := rfl
theorem co_lt {xs : List Int} {k : Nat} (h : k < xs.length) : xs[k]? = some (co xs k) := by
  unfold co
  rw [List.getD_eq_getElem?_getD, List.getElem?_eq_getElem h]
  rfl
theorem co_ge {xs : List Int} {k : Nat} (h : xs.length ≤ k) : co xs k = 0 := by
  unfold co
  rw [List.getD_eq_getElem?_getD, List.getElem?_eq_none h]
  rfl
theorem co_map (f : Int → Int) (hf : f 0 = 0) (xs : List Int) (k : Nat) : co (xs.map f) k = f (co xs k) := by
  by_cases h : k < xs.length
  · have h1 := co_lt (xs := xs.map f) (k := k) (by simpa using h)
    rw [List.getElem?_map, co_lt h] at h1
    exact (Option.some.inj h1).symm
  · rw [co_ge (by simpa using h), co_ge (by omega), hf]
theorem co_take (xs : List Int) (n k : Nat) : co (xs.take n) k = if k < n then co xs k else 0 := by
  unfold co
  rw [List.getD_eq_getElem?_getD, List.getD_eq_getElem?_getD, List.getElem?_take]
  split <;> rfl
theorem co_ext {xs ys : List Int} (hl : xs.length = ys.length) (h : ∀ k, co xs k = co ys k) : xs = ys := by
  apply List.ext_getElem? 
  intro k
  by_cases hk : k < xs.length
  · rw [co_lt hk, co_lt (by omega), h k]
  · rw [List.getElem?_eq_none (by omega), List.getElem?_eq_none (by omega)]
def tsz : List Int → Nat
  | [] => 0
  | a :: xs => if tsz xs = 0 then (if a = 0 then 0 else 1) else tsz xs + 1
theorem tsz_le : ∀ xs : List Int, tsz xs ≤ xs.length
  | [] => Nat.le_refl _
  | a :: xs => by
    have := tsz_le xs
    unfold tsz
    rw [List.length_cons]
    split
    · split <;> omega
    · omega
theorem tsz_zero : ∀ (xs : List Int) (k : Nat), tsz xs ≤ k → co xs k = 0
  | [], k, _ => co_nil k
  | a :: xs, k, h => by
    unfold tsz at h
    cases k with
    | zero =>
      split at h
      · split at h
        · assumption
        · omega
      · omega
    | succ k =>
      rw [co_succ]
      refine tsz_zero xs k ?_
      split at h <;> omega
theorem tsz_last : ∀ (xs : List Int), tsz xs ≠ 0 → co xs (tsz xs - 1) ≠ 0
  | [], h => absurd rfl h
  | a :: xs, h => by
    unfold tsz at h ⊢
    by_cases z : tsz xs = 0
    · rw [if_pos z] at h ⊢
      by_cases ha : a = 0
      · rw [if_pos ha] at h; exact absurd rfl h
      · rw [if_neg ha]
        exact ha
    · rw [if_neg z]
      have := tsz_last xs z
      rw [show tsz xs + 1 - 1 = (tsz xs - 1) + 1 by omega, co_succ]
      exact this
theorem tsz_eq {xs : List Int} {n : Nat} (h1 : ∀ k, n ≤ k → co xs k = 0) (h2 : n ≠ 0 → co xs (n - 1) ≠ 0) : tsz xs = n := by
  rcases Nat.lt_trichotomy (tsz xs) n with h | h | h
  · exact absurd (tsz_zero xs (n - 1) (by omega)) (h2 (by omega))
  · exact h
  · exact absurd (h1 (tsz xs - 1) (by omega)) (tsz_last xs (by omega))
def trim (xs : List Int) : List Int := xs.take (tsz xs)
theorem co_trim (xs : List Int) (k : Nat) : co (trim xs) k = co xs k := by
  unfold trim
  rw [co_take]
  split
  · rfl
  · exact (tsz_zero xs k (by omega)).symm
theorem trim_len (xs : List Int) : (trim xs).length = tsz xs := by
  unfold trim
  rw [List.length_take]
  have := tsz_le xs
  omega
def cont (xs : List Int) : Nat := xs.foldl (fun g x => Int.gcd g x) 0
theorem foldl_gcd : ∀ (xs : List Int) (g : Nat), xs.foldl (fun g x => Int.gcd g x) g = Nat.gcd g (cont xs)
  | [], g => by simp [cont]
  | x :: xs, g => by
    have h1 := foldl_gcd xs (Int.gcd g x)
    have h2 := foldl_gcd xs (Int.gcd (0 : Nat) x)
    unfold cont
    simp only [List.foldl_cons]
    rw [h1, h2]
    show Nat.gcd (Nat.gcd g x.natAbs) (cont xs) = Nat.gcd g (Nat.gcd (Nat.gcd 0 x.natAbs) (cont xs))
    rw [Nat.gcd_zero_left, Nat.gcd_assoc]
theorem cont_cons (x : Int) (xs : List Int) : cont (x :: xs) = Nat.gcd x.natAbs (cont xs) := by
  have := foldl_gcd xs (Int.gcd (0 : Nat) x)
  unfold cont at *
  rw [List.foldl_cons, this]
  show Nat.gcd (Nat.gcd 0 x.natAbs) _ = _
  rw [Nat.gcd_zero_left]
theorem cont_dvd : ∀ {xs : List Int} {x : Int}, x ∈ xs → (cont xs : Int) ∣ x
  | y :: xs, x, h => by
    rw [cont_cons]
    rcases List.mem_cons.mp h with e | e
    · subst e
      exact Int.ofNat_dvd_left.mpr (Nat.gcd_dvd_left _ _)
    · exact Int.dvd_trans (Int.natCast_dvd_natCast.mpr (Nat.gcd_dvd_right _ _)) (cont_dvd e)
theorem dvd_cont : ∀ {xs : List Int} {m : Nat}, (∀ x ∈ xs, (m : Int) ∣ x) → m ∣ cont xs
  | [], m, _ => Nat.dvd_zero m
  | x :: xs, m, h => by
    rw [cont_cons]
    exact Nat.dvd_gcd (Int.ofNat_dvd_left.mp (h x List.mem_cons_self)) (dvd_cont fun y hy => h y (List.mem_cons_of_mem _ hy))
theorem cont_mul : ∀ (xs : List Int) (s : Int), cont (xs.map (· * s)) = cont xs * s.natAbs
  | [], s => by simp [cont]
  | x :: xs, s => by
    rw [List.map_cons, cont_cons, cont_cons, cont_mul xs s, Int.natAbs_mul, Nat.gcd_mul_right]
theorem dvd_cont_mul {q m : Int} : ∀ {ys : List Int}, (∀ y ∈ ys, q ∣ y * m) → q.natAbs ∣ cont ys * m.natAbs
  | [], _ => by simp [cont]
  | y :: ys, h => by
    rw [cont_cons, ← Nat.gcd_mul_right]
    refine Nat.dvd_gcd ?_ (dvd_cont_mul fun z hz => h z (List.mem_cons_of_mem _ hz))
    rw [← Int.natAbs_mul]
    exact Int.natAbs_dvd_natAbs.mpr (h y List.mem_cons_self)
def plS (xs : List Int) (d : Int) : Int := if d < 0 then -(Nat.gcd (cont (trim xs)) d.natAbs : Int) else (Nat.gcd (cont (trim xs)) d.natAbs : Int)
def plC (xs : List Int) (d : Int) : List Int := (trim xs).map fun x => x.fdiv (plS xs d)
def plD (xs : List Int) (d : Int) : Int := d.fdiv (plS xs d)
section
variable {xs : List Int} {d : Int}
theorem plG_pos (hd : d ≠ 0) : 0 < Nat.gcd (cont (trim xs)) d.natAbs := Nat.gcd_pos_of_pos_right _ (Int.natAbs_pos.mpr hd)
theorem plS_ne (hd : d ≠ 0) : plS xs d ≠ 0 := by
  have := plG_pos (xs := xs) hd
  unfold plS
  split <;> omega
theorem plS_abs : (plS xs d).natAbs = Nat.gcd (cont (trim xs)) d.natAbs := by
  unfold plS
  split <;> omega
theorem plS_dvd_d : plS xs d ∣ d := by
  rw [← Int.natAbs_dvd, plS_abs]
  exact Int.ofNat_dvd_left.mpr (Nat.gcd_dvd_right _ _)
theorem plS_dvd {x : Int} (h : x ∈ trim xs) : plS xs d ∣ x := by
  rw [← Int.natAbs_dvd, plS_abs]
  exact Int.dvd_trans (Int.natCast_dvd_natCast.mpr (Nat.gcd_dvd_left _ _)) (cont_dvd h)
theorem fdiv_mul_of_dvd {a s : Int} (hs : s ≠ 0) (h : s ∣ a) : a.fdiv s * s = a := by
  obtain ⟨k, rfl⟩ := h
  rw [Int.mul_comm s k, Int.mul_fdiv_cancel _ hs]
theorem plD_mul (hd : d ≠ 0) : plD xs d * plS xs d = d := fdiv_mul_of_dvd (plS_ne hd) plS_dvd_d
theorem plD_pos (hd : d ≠ 0) : 0 < plD xs d := by
  have h := plD_mul (xs := xs) hd
  have g := plG_pos (xs := xs) hd
  rcases Int.lt_or_gt_of_ne hd with h0 | h0
  · have hs : plS xs d < 0 := by unfold plS; rw [if_pos h0]; omega
    rcases Int.lt_trichotomy (plD xs d) 0 with q | q | q
    · have := Int.mul_pos_of_neg_of_neg q hs
      omega
    · rw [q, Int.zero_mul] at h; omega
    · exact q
  · have hs : 0 < plS xs d := by unfold plS; rw [if_neg (by omega)]; omega
    rcases Int.lt_trichotomy (plD xs d) 0 with q | q | q
    · have := Int.mul_neg_of_neg_of_pos q hs
      omega
    · rw [q, Int.zero_mul] at h; omega
    · exact q
theorem plC_len : (plC xs d).length = tsz xs := by unfold plC; rw [List.length_map, trim_len]
theorem plC_mul (hd : d ≠ 0) (k : Nat) : co (plC xs d) k * plS xs d = co xs k := by
  unfold plC
  rw [co_map (fun x => x.fdiv (plS xs d)) (by simp), ← co_trim xs k]
  by_cases h : k < (trim xs).length
  · exact fdiv_mul_of_dvd (plS_ne hd) (plS_dvd (List.mem_of_getElem? (co_lt h)))
  · rw [co_ge (by omega)]
    simp
theorem pl_cross (hd : d ≠ 0) (k : Nat) : co (plC xs d) k * d = co xs k * plD xs d := by
  have h1 := plC_mul (xs := xs) hd k
  have h2 := plD_mul (xs := xs) hd
  generalize plS xs d = s at *
  generalize plD xs d = q at *
  generalize co (plC xs d) k = y at *
  grind
theorem pl_gcd (hd : d ≠ 0) : Nat.gcd (cont (plC xs d)) (plD xs d).natAbs = 1 := by
  have h1 : (plC xs d).map (· * plS xs d) = trim xs := by
    unfold plC
    rw [List.map_map]
    conv => rhs; rw [← List.map_id (trim xs)]
    refine List.map_congr_left fun x hx => ?_
    exact fdiv_mul_of_dvd (plS_ne hd) (plS_dvd hx)
  have h2 : cont (plC xs d) * (plS xs d).natAbs = cont (trim xs) := by rw [← cont_mul, h1]
  have h3 : (plD xs d).natAbs * (plS xs d).natAbs = d.natAbs := by rw [← Int.natAbs_mul, plD_mul hd]
  have h4 := Nat.gcd_mul_right (cont (plC xs d)) (plS xs d).natAbs (plD xs d).natAbs
  rw [h2, h3, plS_abs] at h4
  have g := plG_pos (xs := xs) hd
  exact Nat.eq_of_mul_eq_mul_right g (by omega)
theorem plC_last (hd : d ≠ 0) (h : plC xs d ≠ []) : co (plC xs d) ((plC xs d).length - 1) ≠ 0 := by
  have hl := plC_len (xs := xs) (d := d)
  have hn : tsz xs ≠ 0 := fun z => h (List.length_eq_zero_iff.mp (by rw [hl, z]))
  have := tsz_last xs hn
  rw [hl]
  intro z
  have m := plC_mul (xs := xs) hd (tsz xs - 1)
  rw [z, Int.zero_mul] at m
  exact this m.symm
end
theorem pl_canon {xs xs' : List Int} {d d' : Int} (hd : d ≠ 0) (hd' : d' ≠ 0) (h : ∀ k, co xs k * d' = co xs' k * d) : plC xs d = plC xs' d' ∧ plD xs d = plD xs' d' := by
  have hz : ∀ k, co xs k = 0 ↔ co xs' k = 0 := fun k => by
    constructor
    · intro z
      have := h k
      rw [z, Int.zero_mul] at this
      exact (Int.mul_eq_zero.mp this.symm).resolve_right hd
    · intro z
      have := h k
      rw [z, Int.zero_mul] at this
      exact (Int.mul_eq_zero.mp this).resolve_right hd'
  have ht : tsz xs = tsz xs' := (tsz_eq (xs := xs') (n := tsz xs) (fun k hk => (hz k).mp (tsz_zero xs k hk)) (fun hn z => tsz_last xs hn ((hz _).mpr z))).symm
  have a1 := fun k => pl_cross (xs := xs) hd k
  have a2 := fun k => pl_cross (xs := xs') hd' k
  have b1 := plD_pos (xs := xs) hd
  have b2 := plD_pos (xs := xs') hd'
  have c1 := pl_gcd (xs := xs) hd
  have c2 := pl_gcd (xs := xs') hd'
  have l1 := plC_len (xs := xs) (d := d)
  have l2 := plC_len (xs := xs') (d := d')
  generalize plC xs d = ys at *
  generalize plC xs' d' = ys' at *
  generalize plD xs d = q at *
  generalize plD xs' d' = q' at *
  have kk : ∀ k, co ys k * q' = co ys' k * q := fun k => by
    refine Int.eq_of_mul_eq_mul_left (Int.mul_ne_zero hd hd') ?_
    have h1 := a1 k
    have h2 := a2 k
    have h3 := h k
    generalize co ys k = y at *
    generalize co ys' k = y' at *
    generalize co xs k = x at *
    generalize co xs' k = x' at *
    grind
  have dv : ∀ {ys ys' : List Int} {q q' : Int}, (∀ k, co ys k * q' = co ys' k * q) → Nat.gcd (cont ys) q.natAbs = 1 → q ∣ q' := fun {ys ys' q q'} hk hg => by
    have h1 : q.natAbs ∣ cont ys * q'.natAbs := dvd_cont_mul fun y hy => by
      obtain ⟨k, hlt, e⟩ := List.mem_iff_getElem.mp hy
      have h2 := co_lt hlt
      rw [List.getElem?_eq_getElem hlt] at h2
      have h3 : y = co ys k := by rw [← e]; exact Option.some.inj h2
      rw [h3, hk k]
      exact Int.dvd_mul_left _ _
    have h2 : Nat.Coprime q.natAbs (cont ys) := by
      rw [Nat.gcd_comm] at hg
      exact hg
    exact Int.natAbs_dvd_natAbs.mp (Nat.Coprime.dvd_of_dvd_mul_left h2 h1)
  have d1 : q ∣ q' := dv kk c1
  have d2 : q' ∣ q := dv (fun k => (kk k).symm) c2
  have e : q = q' := Int.le_antisymm (Int.le_of_dvd b2 d1) (Int.le_of_dvd b1 d2)
  subst e
  exact ⟨co_ext (by omega) fun k => Int.eq_of_mul_eq_mul_right (by omega) (kk k), rfl⟩
abbrev pl (c : Nat) (xs : List Int) (d : Int) : Dt := .ins c [.tup (iL (plC xs d)), .int (plD xs d)]
theorem co_pad (xs : List Int) (n k : Nat) : co (xs ++ List.replicate n 0) k = co xs k := by
  unfold co
  rw [List.getD_eq_getElem?_getD, List.getD_eq_getElem?_getD]
  by_cases h : k < xs.length
  · rw [List.getElem?_append_left h]
  · rw [List.getElem?_append_right (by omega), List.getElem?_replicate, List.getElem?_eq_none (by omega : xs.length ≤ k)]
    split <;> rfl
theorem foldl_int : ∀ (ys : List Int) (g : Nat), ys.foldl (fun g x => (Int.gcd g x : Int)) (g : Int) = ((ys.foldl (fun (g : Nat) x => Int.gcd g x) g : Nat) : Int)
  | [], g => rfl
  | y :: ys, g => foldl_int ys (Int.gcd g y)
theorem plC_small {xs : List Int} {d : Int} (hd : d ≠ 0) (k : Nat) : (co (plC xs d) k).natAbs ≤ (co xs k).natAbs := natAbs_le_of_mul (plC_mul hd k) (plS_ne hd)
theorem plD_small {xs : List Int} {d : Int} (hd : d ≠ 0) : (plD xs d).natAbs ≤ d.natAbs := natAbs_le_of_mul (plD_mul hd) (plS_ne hd)
theorem co_set {xs : List Int} {m : Nat} {v : Int} (h : m < xs.length) (k : Nat) : co (xs.set m v) k = if k = m then v else co xs k := by
  unfold co
  rw [List.getD_eq_getElem?_getD, List.getD_eq_getElem?_getD]
  by_cases e : k = m
  · subst e
    rw [List.getElem?_set_self h, if_pos rfl]
    rfl
  · rw [List.getElem?_set_ne (fun z => e z.symm), if_neg e]
theorem co_repl (n k : Nat) : co (List.replicate n 0) k = 0 := by
  unfold co
  rw [List.getD_eq_getElem?_getD, List.getElem?_replicate]
  split <;> rfl
def mulc : List Int → List Int → Nat → Int
  | [], _, _ => 0
  | a :: as, b, k => a * co b k + (match k with
    | 0 => 0
    | k + 1 => mulc as b k)
theorem mulc_snoc : ∀ (xs : List Int) (a : Int) (b : List Int) (k : Nat), mulc (xs ++ [a]) b k = mulc xs b k + (if xs.length ≤ k then a * co b (k - xs.length) else 0)
  | [], a, b, k => by
    cases k <;> simp [mulc]
  | x :: xs, a, b, 0 => by simp [mulc]
  | x :: xs, a, b, k + 1 => by
    have := mulc_snoc xs a b k
    show x * co b (k + 1) + mulc (xs ++ [a]) b k = x * co b (k + 1) + mulc xs b k + _
    rw [this, List.length_cons, Int.add_assoc]
    congr 2
    by_cases h : xs.length ≤ k
    · rw [if_pos h, if_pos (by omega), show k + 1 - (xs.length + 1) = k - xs.length by omega]
    · rw [if_neg h, if_neg (by omega)]
def shc (s : Int) : List Int → Nat → Int
  | [], _ => 0
  | a :: xs, k => (match k with
    | 0 => a
    | k + 1 => shc s xs k) + s * shc s xs k
theorem shc_ge (s : Int) : ∀ (xs : List Int) (k : Nat), xs.length ≤ k → shc s xs k = 0
  | [], k, _ => rfl
  | a :: xs, 0, h => by simp at h
  | a :: xs, k + 1, h => by
    have h' : xs.length ≤ k := by simpa using h
    show shc s xs k + s * shc s xs (k + 1) = 0
    rw [shc_ge s xs k h', shc_ge s xs (k + 1) (by omega)]
    simp
theorem shc_lin (s : Int) : ∀ (xs ys : List Int) (p q : Int), (∀ k, co xs k * p = co ys k * q) → ∀ k, shc s xs k * p = shc s ys k * q
  | [], [], p, q, _, k => by simp [shc]
  | [], y :: ys, p, q, h, k => by
    have ih := shc_lin s [] ys p q (fun k => h (k + 1))
    have h0 := h 0
    have z : ∀ k, shc s ys k * q = 0 := fun k => by rw [← ih k]; simp [shc]
    have y0 : y * q = 0 := by rw [← show co (y :: ys) 0 = y from rfl, ← h0]; simp [co]
    show 0 * p = ((match k with | 0 => y | k + 1 => shc s ys k) + s * shc s ys k) * q
    rw [Int.add_mul, Int.mul_assoc, z k]
    cases k with
    | zero => simp [y0]
    | succ k => simp [z k]
  | x :: xs, [], p, q, h, k => by
    have ih := shc_lin s xs [] p q (fun k => h (k + 1))
    have h0 := h 0
    have z : ∀ k, shc s xs k * p = 0 := fun k => by rw [ih k]; simp [shc]
    have x0 : x * p = 0 := by rw [← show co (x :: xs) 0 = x from rfl, h0]; simp [co]
    show ((match k with | 0 => x | k + 1 => shc s xs k) + s * shc s xs k) * p = 0 * q
    rw [Int.add_mul, Int.mul_assoc, z k]
    cases k with
    | zero => simp [x0]
    | succ k => simp [z k]
  | x :: xs, y :: ys, p, q, h, k => by
    have ih := shc_lin s xs ys p q (fun k => h (k + 1))
    have h0 : x * p = y * q := h 0
    show ((match k with | 0 => x | k + 1 => shc s xs k) + s * shc s xs k) * p = ((match k with | 0 => y | k + 1 => shc s ys k) + s * shc s ys k) * q
    rw [Int.add_mul, Int.add_mul, Int.mul_assoc, Int.mul_assoc, ih k]
    cases k with
    | zero => simp [h0]
    | succ k => simp [ih k]
theorem co_app (xs ys : List Int) (k : Nat) : co (xs ++ ys) k = if k < xs.length then co xs k else co ys (k - xs.length) := by
  unfold co
  rw [List.getD_eq_getElem?_getD, List.getD_eq_getElem?_getD, List.getD_eq_getElem?_getD]
  split
  · rw [List.getElem?_append_left (by assumption)]
  · rw [List.getElem?_append_right (by omega)]
theorem Sm.addUp {x y : Int} {m : Nat} (h : Sm x m) (k : Sm y m) : Sm (x + y) (m + 1) := ⟨by
  have h1 := h.lt
  have h2 := k.lt
  have := Int.natAbs_add_le x y
  rw [Nat.pow_succ]
  generalize 2 ^ m = A at *
  omega, Nat.succ_pos _⟩
theorem Sm.zero {m : Nat} (h : 0 < m) : Sm 0 m := ⟨Nat.pow_pos (by decide), h⟩
end Pd
set_option maxHeartbeats 2000000
namespace Pd
open PySem PySem.Spec L2
section
variable {σ α β τ : Type}
theorem forV_inv {V : σ → α → Prop} {f : σ → α → σ} (I : Nat → σ → Prop) : ∀ {xs : List α} {s : σ} (m : Nat), I m s → (∀ i x s, xs[i]? = some x → I (m + i) s → V s x ∧ I (m + i + 1) (f s x)) → forV V f xs s ∧ I (m + xs.length) (xs.foldl f s)
  | [], s, m, h, _ => ⟨trivial, h⟩
  | x :: xs, s, m, h, st => by
    obtain ⟨v, h1⟩ := st 0 x s rfl h
    obtain ⟨w, h2⟩ := forV_inv I (xs := xs) (s := f s x) (m + 1) h1 fun i y s' hy hs => by
      have := st (i + 1) y s' (by simpa using hy) (by rwa [show m + (i + 1) = m + 1 + i by omega])
      rwa [show m + (i + 1) + 1 = m + 1 + i + 1 by omega] at this
    exact ⟨⟨v, w⟩, by rw [List.length_cons, show m + (xs.length + 1) = m + 1 + xs.length by omega]; exact h2⟩
theorem forV_inv0 {V : σ → α → Prop} {f : σ → α → σ} (I : Nat → σ → Prop) {xs : List α} {s : σ} (h : I 0 s) (st : ∀ i x s, xs[i]? = some x → I i s → V s x ∧ I (i + 1) (f s x)) : forV V f xs s ∧ I xs.length (xs.foldl f s) := by
  have := forV_inv I (xs := xs) (s := s) (V := V) (f := f) 0 h fun i x s hx hs => by
    rw [Nat.zero_add] at hs ⊢; exact st i x s hx hs
  rwa [Nat.zero_add] at this
theorem forX_inv {V : σ → α → Prop} {f : σ → α → Fl σ σ β} (I : Nat → σ → Prop) : ∀ {xs : List α} {s : σ} (m : Nat), I m s → (∀ i x s, xs[i]? = some x → I (m + i) s → V s x ∧ ∃ s', f s x = .nx s' ∧ I (m + i + 1) s') → forVX V f xs s ∧ ∃ s', (forX f xs s : Fl σ τ β) = .nx s' ∧ I (m + xs.length) s'
  | [], s, m, h, _ => ⟨trivial, s, rfl, h⟩
  | x :: xs, s, m, h, st => by
    obtain ⟨v, s1, e1, h1⟩ := st 0 x s rfl h
    obtain ⟨w, s2, e2, h2⟩ := forX_inv I (xs := xs) (s := s1) (V := V) (f := f) (m + 1) h1 fun i y s' hy hs => by
      have := st (i + 1) y s' (by simpa using hy) (by rwa [show m + (i + 1) = m + 1 + i by omega])
      rwa [show m + (i + 1) + 1 = m + 1 + i + 1 by omega] at this
    refine ⟨⟨v, ?_⟩, s2, ?_, by rw [List.length_cons, show m + (xs.length + 1) = m + 1 + xs.length by omega]; exact h2⟩
    · rw [e1]; exact w
    · show (match f s x with | .nx s' => forX f xs s' | .ct s' => forX f xs s' | .bk s' => .nx s' | .rt r => .rt r) = _
      rw [e1]; exact e2
theorem forX_inv0 {V : σ → α → Prop} {f : σ → α → Fl σ σ β} (I : Nat → σ → Prop) {xs : List α} {s : σ} (h : I 0 s) (st : ∀ i x s, xs[i]? = some x → I i s → V s x ∧ ∃ s', f s x = .nx s' ∧ I (i + 1) s') : forVX V f xs s ∧ ∃ s', (forX f xs s : Fl σ τ β) = .nx s' ∧ I xs.length s' := by
  have := forX_inv I (τ := τ) (xs := xs) (s := s) (V := V) (f := f) 0 h fun i x s hx hs => by
    rw [Nat.zero_add] at hs ⊢; exact st i x s hx hs
  rwa [Nat.zero_add] at this
theorem forX_all {V : Unit → α → Prop} {f : Unit → α → Fl Unit Unit β} {xs : List α} (st : ∀ (i : Nat) (x : α), xs[i]? = some x → V () x ∧ f () x = .nx ()) : forVX V f xs () ∧ (forX f xs () : Fl Unit τ β) = .nx () := by
  obtain ⟨a, s', b, _⟩ := forX_inv0 (τ := τ) (V := V) (f := f) (fun _ _ => True) (xs := xs) (s := ()) trivial fun i x s hx _ => ⟨(st i x hx).1, (), (st i x hx).2, trivial⟩
  exact ⟨a, b⟩
theorem whN_of {t : σ → Bool} {Vt V : σ → Prop} {f : σ → σ} (I : Nat → σ → Prop) : ∀ (n : Nat) (s : σ), I n s → (∀ n s, I n s → Vt s ∧ (t s = false ∨ (t s = true ∧ V s ∧ ∃ k, k < n ∧ I k (f s)))) → ∃ m k, whN t Vt f V m s ∧ I k (itN f m s) ∧ t (itN f m s) = false := by
  intro n
  induction n using Nat.strongRecOn with
  | ind n ih =>
    intro s h st
    obtain ⟨v, e | ⟨e, w, k, hk, h2⟩⟩ := st n s h
    · exact ⟨0, n, ⟨v, e⟩, h, e⟩
    · obtain ⟨m, k', a, b, c⟩ := ih k hk (f s) h2 st
      exact ⟨m + 1, k', ⟨v, e, w, a⟩, b, c⟩
theorem whV_inv {t : σ → Bool} {Vt V : σ → Prop} {f : σ → σ} (I : Nat → σ → Prop) (n : Nat) {s : σ} (h : I n s) (st : ∀ n s, I n s → Vt s ∧ (t s = false ∨ (t s = true ∧ V s ∧ ∃ k, k < n ∧ I k (f s)))) : whV t Vt f V s ∧ ∃ k, I k (wh t f s) ∧ t (wh t f s) = false := by
  obtain ⟨m, k, a, b, c⟩ := whN_of I n s h st
  refine ⟨⟨m, a⟩, k, ?_⟩
  rw [wh_at (whN_T a)]
  exact ⟨b, c⟩
end
theorem rngN_length (a : Int) (n : Nat) : (rngN a n).length = n := by
  induction n generalizing a with
  | zero => rfl
  | succ n ih => simp [rngN, ih]
theorem rngN_get {a : Int} {n i : Nat} {x : Int} (h : (rngN a n)[i]? = some x) : i < n ∧ x = a + i := by
  induction n generalizing a i with
  | zero => simp [rngN] at h
  | succ n ih =>
    cases i with
    | zero => simp [rngN] at h; exact ⟨by omega, by rw [← h]; simp⟩
    | succ i =>
      obtain ⟨h1, h2⟩ := ih (a := a + 1) (i := i) (by simpa [rngN] using h)
      exact ⟨by omega, by rw [h2]; push_cast; omega⟩
theorem rngT_length (a b : Int) : (rngT a b).length = (b - a).toNat := rngN_length _ _
theorem rngT_get {a b : Int} {i : Nat} {x : Int} (h : (rngT a b)[i]? = some x) : (i : Int) < b - a ∧ x = a + i := by
  obtain ⟨h1, h2⟩ := rngN_get h
  exact ⟨by omega, h2⟩
theorem rngT0_length (n : Nat) : (rngT 0 (n : Int)).length = n := by rw [rngT_length]; omega
theorem rngT0_get {n i : Nat} {x : Int} (h : (rngT 0 (n : Int))[i]? = some x) : i < n ∧ x = i := by
  obtain ⟨h1, h2⟩ := rngT_get h
  omega
theorem ixN_n {n j : Nat} (hj : j < n) : ixN n (j : Int) = some j := by
  unfold ixN
  rw [if_pos (by omega), if_pos (by omega), Int.toNat_natCast]
theorem gt_co (xs : List Int) (k : Nat) : gt xs (k : Int) = co xs k := by
  unfold gt atI
  by_cases h : k < xs.length
  · rw [ixN_n h]
    show (xs[k]?).getD default = co xs k
    rw [co_lt h]; rfl
  · have : ixN xs.length (k : Int) = none := by
      unfold ixN
      rw [if_pos (by omega), if_neg (by omega)]
    rw [this, co_ge (by omega)]; rfl
theorem inR_nat {α : Type} {xs : List α} {k : Nat} (h : k < xs.length) : inR xs (k : Int) := by unfold inR; omega
theorem inR_i {α : Type} {xs : List α} {i : Int} (h0 : 0 ≤ i) (h : i < xs.length) : inR xs i := by unfold inR; omega
theorem inR_neg {α : Type} {xs : List α} (h : 0 < xs.length) : inR xs (-1 : Int) := by unfold inR; omega
theorem gt_neg {α : Type} [Inhabited α] {xs : List α} (h : 0 < xs.length) : gt xs (-1 : Int) = xs[xs.length - 1] := by
  unfold gt atI ixN
  rw [if_neg (by omega), if_pos (by omega)]
  show (xs[(((xs.length : Nat) : Int) + -1).toNat]?).getD default = _
  have e : (((xs.length : Nat) : Int) + -1).toNat = xs.length - 1 := by omega
  rw [e, List.getElem?_eq_getElem (by omega)]; rfl
theorem setT_nat {α : Type} {xs : List α} {k : Nat} {x : α} (h : k < xs.length) : setT xs (k : Int) x = xs.set k x := by
  unfold setT
  rw [ixN_n h]
theorem cut_take {α : Type} {xs : List α} {n : Nat} (h : n ≤ xs.length) : cutT xs none (some (n : Int)) = xs.take n := by
  unfold cutT
  rw [HT.sIx_none, HT.sIx_nat, List.drop_zero, Nat.sub_zero, Nat.min_eq_left h]
theorem line_le {n : Nat} (h : n ≤ 10000000) : n ≤ LINE := by
  have : LINE = 16777216 := rfl
  omega
theorem line_lt {n : Nat} (h : n ≤ 10000000) : n < LINE := by
  have : LINE = 16777216 := rfl
  omega
theorem rng_zeros (n : Int) : (rngT 0 n).map (fun _ => (0 : Int)) = List.replicate n.toNat 0 := by
  rw [List.map_const']
  congr 1
  rw [rngT_length]
  omega
theorem mulOk_sm {i j : Int} {a b : Nat} (h : Sm i a) (k : Sm j b) (l : a + b ≤ 100000000) : mulOk i j = true := mulOk_of a b h.lt k.lt l h.pos k.pos
theorem Sm.le {x y : Int} {n : Nat} (h : Sm y n) (l : x.natAbs ≤ y.natAbs) : Sm x n := ⟨Nat.lt_of_le_of_lt l h.lt, h.pos⟩
theorem Sm.nat {x : Int} {n : Nat} (lo : -(2 ^ n : Nat) < x) (hi : x < (2 ^ n : Nat)) (p : 0 < n) : Sm x n := ⟨by omega, p⟩
theorem Sm.mulUp {x y : Int} {a b c : Nat} (h : Sm x a) (k : Sm y b) (l : a + b ≤ c) : Sm (x * y) c := (Sm.mul (h := h) (k := k)).up l
theorem Sm.addUp2 {x y : Int} {a b c : Nat} (h : Sm x a) (k : Sm y b) (l : a + 1 ≤ c) (l' : b + 1 ≤ c) : Sm (x + y) c := by
  obtain ⟨m, rfl⟩ : ∃ m, c = m + 1 := ⟨c - 1, by omega⟩
  exact (h.up (b := m) (by omega)).addUp (k.up (by omega))
theorem Sm.negUp {x : Int} {a : Nat} (h : Sm x a) : Sm (-x) a := Sm.neg (h := h)
theorem Sm.subUp2 {x y : Int} {a b c : Nat} (h : Sm x a) (k : Sm y b) (l : a + 1 ≤ c) (l' : b + 1 ≤ c) : Sm (x - y) c := by
  rw [Int.sub_eq_add_neg]; exact h.addUp2 k.negUp l l'
theorem Sm.abs {x : Int} {a : Nat} (h : Sm x a) : Sm (x.natAbs : Int) a := h.le (by omega)
theorem rOk_nat {n : Nat} (h : n ≤ 1000000000000) : rOk (n : Int) = true := rOk_of (by omega) (by omega)
theorem divisor_spec (a b : Int) : v_law_divisor a b ∧ q_law_divisor a b = Int.gcd a b := by
  have := whV_inv (t := fun (s1 : Int × Int) => (decide (s1.2 > (0 : Int)))) (Vt := fun (s1 : Int × Int) => True) (f := fun (s1 : Int × Int) => q_law_divisor_3 s1.1 s1.2) (V := fun (s1 : Int × Int) => v_law_divisor_3 s1.1 s1.2)
    (fun n s => s.2 = (n : Int) ∧ 0 ≤ s.1 ∧ Int.gcd s.1 s.2 = Int.gcd a b) b.natAbs (s := ((a.natAbs : Int), (b.natAbs : Int))) ⟨rfl, by simp, by simp [Int.gcd]⟩ fun n s ⟨h1, h2, h3⟩ => by
      refine ⟨trivial, ?_⟩
      obtain ⟨x, y⟩ := s
      dsimp only at *
      cases n with
      | zero => left; subst h1; rfl
      | succ n =>
        right
        have hp : 0 < y := by omega
        have hf := fmod_pos (i := x) hp
        refine ⟨decide_eq_true hp, by show y ≠ 0; omega, (x.fmod y).toNat, by omega, ?_⟩
        show x.fmod y = _ ∧ 0 ≤ y ∧ Int.gcd y (x.fmod y) = _
        refine ⟨by omega, by omega, ?_⟩
        rw [← h3, Int.fmod_eq_emod_of_nonneg _ (by omega)]
        obtain ⟨X, rfl⟩ := Int.eq_ofNat_of_zero_le h2
        obtain ⟨Y, rfl⟩ := Int.eq_ofNat_of_zero_le (Int.le_of_lt hp)
        show Nat.gcd Y (X % Y) = Nat.gcd X Y
        rw [Nat.gcd_comm X Y, Nat.gcd_rec Y X, Nat.gcd_comm]
  obtain ⟨v, k, ⟨h1, h2, h3⟩, h4⟩ := this
  refine ⟨v, ?_⟩
  show (wh (fun (s1 : Int × Int) => (decide (s1.2 > (0 : Int)))) (fun (s1 : Int × Int) => q_law_divisor_3 s1.1 s1.2) ((a.natAbs : Int), (b.natAbs : Int))).1 = _
  generalize wh (fun (s1 : Int × Int) => (decide (s1.2 > (0 : Int)))) (fun (s1 : Int × Int) => q_law_divisor_3 s1.1 s1.2) ((a.natAbs : Int), (b.natAbs : Int)) = s at *
  obtain ⟨x, y⟩ := s
  dsimp only at *
  have hk : y = 0 := by
    have := of_decide_eq_false h4
    omega
  subst hk
  rw [← h3]
  simp [Int.gcd]
  omega
theorem is_integer (x : Int) : q_law_is_integer x = true := rfl
def fr (n d : Int) : Fr := ⟨frP n d, frQ n d⟩
theorem frS_cases (n d : Int) : (if decide (d < 0) = true then -((Int.gcd n d : Nat) : Int) else ((Int.gcd n d : Nat) : Int)) = frS n d := by
  unfold frS
  by_cases h : d < 0
  · rw [if_pos (decide_eq_true h), if_pos h]
  · rw [if_neg (by simpa using h), if_neg h]
theorem frac_spec {n d : Int} (hd : d ≠ 0) : v_Fraction_init n d ∧ q_Fraction_init n d = fr n d := by
  constructor
  · refine ⟨decide_eq_false hd, ?_⟩
    show (if decide (d < 0) = true then -((Int.gcd n d : Nat) : Int) else ((Int.gcd n d : Nat) : Int)) ≠ 0 ∧ (if decide (d < 0) = true then -((Int.gcd n d : Nat) : Int) else ((Int.gcd n d : Nat) : Int)) ≠ 0
    rw [frS_cases]
    exact ⟨frS_ne hd, frS_ne hd⟩
  · show (⟨n.fdiv (if decide (d < 0) = true then -((Int.gcd n d : Nat) : Int) else ((Int.gcd n d : Nat) : Int)), d.fdiv (if decide (d < 0) = true then -((Int.gcd n d : Nat) : Int) else ((Int.gcd n d : Nat) : Int))⟩ : Fr) = _
    rw [frS_cases]; rfl
theorem fr_ext {n d n' d' : Int} (hd : d ≠ 0) (hd' : d' ≠ 0) (h : n * d' = n' * d) : fr n d = fr n' d' := by
  obtain ⟨a, b⟩ := fr_canon hd hd' h
  unfold fr; rw [a, b]
theorem frP_sm {n d : Int} {b : Nat} (hd : d ≠ 0) (h : Sm n b) : Sm (frP n d) b := h.le (frP_le hd)
theorem frQ_sm {n d : Int} {b : Nat} (hd : d ≠ 0) (h : Sm d b) : Sm (frQ n d) b := h.le (frQ_le hd)
end Pd
set_option maxHeartbeats 2000000
namespace Pd
open PySem PySem.Spec L2
universe u
structure Ps (R : Type u) where
  cf : Nat → R
namespace Ps
open Lean.Grind
variable {R : Type u} [CommRing R]
local instance : NatCast R := Semiring.natCast
local instance : IntCast R := Ring.intCast
theorem ext {f g : Ps R} (h : ∀ k, f.cf k = g.cf k) : f = g := by
  cases f; cases g
  exact congrArg Ps.mk (funext h)
def sh (f : Nat → R) (k : Nat) : R := f (k + 1)
def cv (f g : Nat → R) : Nat → R
  | 0 => f 0 * g 0
  | k + 1 => f 0 * g (k + 1) + cv (sh f) g k
theorem cv_r (k : Nat) : ∀ (f g : Nat → R), cv f g (k + 1) = cv f (sh g) k + f (k + 1) * g 0 := by
  induction k with
  | zero => intro f g; rfl
  | succ k ih =>
    intro f g
    show f 0 * g (k + 2) + cv (sh f) g (k + 1) = (f 0 * g (k + 2) + cv (sh f) (sh g) k) + f (k + 2) * g 0
    rw [ih (sh f) g]
    show f 0 * g (k + 2) + (cv (sh f) (sh g) k + f (k + 2) * g 0) = _
    grind
theorem cv_comm (k : Nat) : ∀ (f g : Nat → R), cv f g k = cv g f k := by
  induction k with
  | zero => intro f g; show f 0 * g 0 = g 0 * f 0; grind
  | succ k ih =>
    intro f g
    rw [cv_r k g f]
    show f 0 * g (k + 1) + cv (sh f) g k = _
    rw [ih]
    grind
theorem cv_add (k : Nat) : ∀ (f g h : Nat → R), cv f (fun i => g i + h i) k = cv f g k + cv f h k := by
  induction k with
  | zero => intro f g h; show f 0 * (g 0 + h 0) = f 0 * g 0 + f 0 * h 0; grind
  | succ k ih =>
    intro f g h
    have := ih (sh f) g h
    show f 0 * (g (k + 1) + h (k + 1)) + cv (sh f) (fun i => g i + h i) k = f 0 * g (k + 1) + cv (sh f) g k + (f 0 * h (k + 1) + cv (sh f) h k)
    rw [this]
    grind
theorem cv_smul (c : R) (k : Nat) : ∀ (f g : Nat → R), cv (fun i => c * f i) g k = c * cv f g k := by
  induction k with
  | zero => intro f g; show c * f 0 * g 0 = c * (f 0 * g 0); grind
  | succ k ih =>
    intro f g
    have := ih (sh f) g
    show c * f 0 * g (k + 1) + cv (fun i => c * sh f i) g k = c * (f 0 * g (k + 1) + cv (sh f) g k)
    rw [this]
    grind
theorem cv_addl (k : Nat) (f g h : Nat → R) : cv (fun i => g i + h i) f k = cv g f k + cv h f k := by
  rw [cv_comm, cv_add, cv_comm k f g, cv_comm k f h]
theorem cv_assoc (k : Nat) : ∀ (f g h : Nat → R), cv (cv f g) h k = cv f (cv g h) k := by
  induction k with
  | zero => intro f g h; show f 0 * g 0 * h 0 = f 0 * (g 0 * h 0); grind
  | succ k ih =>
    intro f g h
    have e : sh (cv f g) = fun i => f 0 * sh g i + cv (sh f) g i := rfl
    have a := cv_addl k h (fun i => f 0 * sh g i) (cv (sh f) g)
    have b := cv_smul (f 0) k (sh g) h
    have c := ih (sh f) g h
    show f 0 * g 0 * h (k + 1) + cv (sh (cv f g)) h k = f 0 * (g 0 * h (k + 1) + cv (sh g) h k) + cv (sh f) (cv g h) k
    rw [e, a, b, c]
    grind
def kc (r : R) : Nat → R
  | 0 => r
  | _ + 1 => 0
theorem cv_zero (k : Nat) : ∀ (g : Nat → R), cv (fun _ => 0) g k = 0 := by
  induction k with
  | zero => intro g; show 0 * g 0 = 0; grind
  | succ k ih =>
    intro g
    have := ih g
    show 0 * g (k + 1) + cv (fun _ => 0) g k = 0
    rw [this]
    grind
theorem sh_kc (r : R) : sh (kc r) = fun _ => 0 := rfl
theorem cv_kc (r : R) (g : Nat → R) (k : Nat) : cv (kc r) g k = r * g k := by
  cases k with
  | zero => rfl
  | succ k =>
    show r * g (k + 1) + cv (sh (kc r)) g k = _
    rw [sh_kc, cv_zero]
    grind
instance : Add (Ps R) := ⟨fun f g => ⟨fun k => f.cf k + g.cf k⟩⟩
instance : Mul (Ps R) := ⟨fun f g => ⟨cv f.cf g.cf⟩⟩
instance : Neg (Ps R) := ⟨fun f => ⟨fun k => -f.cf k⟩⟩
instance : Sub (Ps R) := ⟨fun f g => ⟨fun k => f.cf k - g.cf k⟩⟩
def c (r : R) : Ps R := ⟨kc r⟩
instance : NatCast (Ps R) := ⟨fun n => c (n : R)⟩
instance : IntCast (Ps R) := ⟨fun n => c (n : R)⟩
instance (n : Nat) : OfNat (Ps R) n := ⟨c (OfNat.ofNat n)⟩
def pw (f : Ps R) : Nat → Ps R
  | 0 => c 1
  | n + 1 => pw f n * f
instance : HPow (Ps R) Nat (Ps R) := ⟨pw⟩
instance : SMul Nat (Ps R) := ⟨fun n f => (n : Ps R) * f⟩
instance : SMul Int (Ps R) := ⟨fun n f => (n : Ps R) * f⟩
@[simp] theorem add_cf (f g : Ps R) (k : Nat) : (f + g).cf k = f.cf k + g.cf k := rfl
@[simp] theorem neg_cf (f : Ps R) (k : Nat) : (-f).cf k = -f.cf k := rfl
@[simp] theorem sub_cf (f g : Ps R) (k : Nat) : (f - g).cf k = f.cf k - g.cf k := rfl
theorem mul_cf (f g : Ps R) (k : Nat) : (f * g).cf k = cv f.cf g.cf k := rfl
@[simp] theorem zero_cf (k : Nat) : (0 : Ps R).cf k = 0 := by cases k <;> rfl
theorem one_cf (k : Nat) : (1 : Ps R).cf k = if k = 0 then 1 else 0 := by cases k <;> rfl
theorem c_cf (r : R) (k : Nat) : (c r).cf k = if k = 0 then r else 0 := by cases k <;> rfl
theorem c_mul (r : R) (g : Ps R) (k : Nat) : (c r * g).cf k = r * g.cf k := cv_kc r g.cf k
theorem mul_comm' (f g : Ps R) : f * g = g * f := ext fun k => cv_comm k _ _
theorem c_neg (r : R) : c (-r) = -c r := ext fun k => by
  cases k with
  | zero => rfl
  | succ k => show (0 : R) = -0; grind
theorem c_add (r s : R) : c (r + s) = c r + c s := ext fun k => by
  cases k with
  | zero => rfl
  | succ k => show (0 : R) = 0 + 0; grind
theorem c_mulc (r s : R) : c (r * s) = c r * c s := ext fun k => by
  rw [c_mul]
  cases k with
  | zero => rfl
  | succ k => show (0 : R) = r * 0; grind
instance : CommRing (Ps R) where
  add_zero f := ext fun k => by rw [add_cf, zero_cf]; grind
  add_comm f g := ext fun k => by rw [add_cf, add_cf]; grind
  add_assoc f g h := ext fun k => by rw [add_cf, add_cf, add_cf, add_cf]; grind
  mul_assoc f g h := ext fun k => cv_assoc k _ _ _
  mul_comm := mul_comm'
  mul_one f := by rw [mul_comm']; exact ext fun k => by rw [show (1 : Ps R) = c 1 from rfl, c_mul]; grind
  one_mul f := ext fun k => by rw [show (1 : Ps R) = c 1 from rfl, c_mul]; grind
  left_distrib f g h := ext fun k => cv_add k _ _ _
  right_distrib f g h := ext fun k => cv_addl k _ _ _
  zero_mul f := ext fun k => by rw [show (0 : Ps R) = c 0 from rfl, c_mul, show (c (0 : R)).cf k = (0 : Ps R).cf k from rfl, zero_cf]; grind
  mul_zero f := by rw [mul_comm']; exact ext fun k => by rw [show (0 : Ps R) = c 0 from rfl, c_mul, show (c (0 : R)).cf k = (0 : Ps R).cf k from rfl, zero_cf]; grind
  pow_zero f := rfl
  pow_succ f n := rfl
  ofNat_succ n := by
    show c (OfNat.ofNat (n + 1)) = c (OfNat.ofNat n) + c 1
    rw [← c_add, Semiring.ofNat_succ]
  ofNat_eq_natCast n := by
    show c (OfNat.ofNat n) = c (n : R)
    rw [Semiring.ofNat_eq_natCast]
  neg_add_cancel f := ext fun k => by rw [add_cf, neg_cf, zero_cf]; grind
  sub_eq_add_neg f g := ext fun k => by rw [sub_cf, add_cf, neg_cf]; grind
  neg_zsmul i f := ext fun k => by
    show ((-i : Int) • f).cf k = (-(i • f)).cf k
    rw [neg_cf]
    show (c ((-i : Int) : R) * f).cf k = -(c (i : R) * f).cf k
    rw [c_mul, c_mul, Ring.intCast_neg]; grind
  zsmul_natCast_eq_nsmul n f := by
    show c (((n : Int) : R)) * f = c (n : R) * f
    rw [Ring.intCast_natCast]
  intCast_ofNat n := by
    show c ((OfNat.ofNat n : Int) : R) = c (OfNat.ofNat n)
    rw [Ring.intCast_ofNat]
  intCast_neg i := by
    show c ((-i : Int) : R) = -c (i : R)
    rw [Ring.intCast_neg, c_neg]
def X : Ps R := ⟨fun k => if k = 1 then 1 else 0⟩
def shp (f : Ps R) : Ps R := ⟨sh f.cf⟩
theorem X_zero (f : Ps R) : (X * f).cf 0 = 0 := by
  show (if (0 : Nat) = 1 then 1 else 0) * f.cf 0 = 0
  rw [if_neg (by omega)]; grind
theorem X_succ (f : Ps R) (k : Nat) : (X * f).cf (k + 1) = f.cf k := by
  show (if (0 : Nat) = 1 then (1 : R) else 0) * f.cf (k + 1) + cv (sh (fun k => if k = 1 then (1 : R) else 0)) f.cf k = _
  have : sh (fun k => if k = 1 then (1 : R) else 0) = kc 1 := by
    funext k
    cases k with
    | zero => rfl
    | succ k => show (if k + 1 + 1 = 1 then (1 : R) else 0) = 0; rw [if_neg (by omega)]
  rw [this, cv_kc, if_neg (by omega)]
  grind
theorem split (f : Ps R) : f = c (f.cf 0) + X * shp f := ext fun k => by
  rw [add_cf]
  cases k with
  | zero => rw [X_zero]; show f.cf 0 = f.cf 0 + 0; grind
  | succ k => rw [X_succ]; show f.cf (k + 1) = 0 + f.cf (k + 1); grind
def Bd (n : Nat) (f : Ps R) : Prop := ∀ k, n ≤ k → f.cf k = 0
theorem Bd.up {n m : Nat} {f : Ps R} (h : Bd n f) (l : n ≤ m) : Bd m f := fun k hk => h k (by omega)
theorem Bd.add {n : Nat} {f g : Ps R} (h : Bd n f) (k : Bd n g) : Bd n (f + g) := fun i hi => by rw [add_cf, h i hi, k i hi]; grind
theorem Bd.neg {n : Nat} {f : Ps R} (h : Bd n f) : Bd n (-f) := fun i hi => by rw [neg_cf, h i hi]; grind
theorem Bd.sub {n : Nat} {f g : Ps R} (h : Bd n f) (k : Bd n g) : Bd n (f - g) := fun i hi => by rw [sub_cf, h i hi, k i hi]; grind
theorem Bd.c (r : R) : Bd 1 (Ps.c r) := fun i hi => by rw [c_cf, if_neg (by omega)]
theorem Bd.zero : Bd 0 (0 : Ps R) := fun i hi => zero_cf (R := R) i
theorem Bd.shp {n : Nat} {f : Ps R} (h : Bd (n + 1) f) : Bd n (shp f) := fun i hi => h (i + 1) (by omega)
theorem Bd.nil {f : Ps R} (h : Bd 0 f) : f = 0 := ext fun k => by rw [h k (Nat.zero_le _), zero_cf]
theorem Bd.cmul {n : Nat} {f : Ps R} (r : R) (h : Bd n f) : Bd n (Ps.c r * f) := fun i hi => by rw [c_mul, h i hi]; grind
theorem Bd.Xmul {n : Nat} {f : Ps R} (h : Bd n f) : Bd (n + 1) (X * f) := fun i hi => by
  cases i with
  | zero => omega
  | succ i => rw [X_succ]; exact h i (by omega)
theorem Bd.mul : ∀ {n m : Nat} {f g : Ps R}, Bd n f → Bd m g → Bd (n + m - 1) (f * g)
  | 0, m, f, g, h, k => by
    rw [h.nil]
    have : (0 : Ps R) * g = 0 := by grind
    rw [this]; exact Bd.zero.up (by omega)
  | n + 1, m, f, g, h, k => by
    have ih := Bd.mul h.shp k
    have e : f * g = Ps.c (f.cf 0) * g + X * (Ps.shp f * g) := by
      conv => lhs; rw [split f]
      grind
    rw [e]
    cases n with
    | zero =>
      have : Ps.shp f = 0 := (Bd.shp (n := 0) h).nil
      rw [this]
      have z : X * (0 * g) = 0 := by grind
      rw [z]
      exact Bd.add ((Bd.cmul _ k).up (by omega)) (Bd.zero.up (by omega))
    | succ n =>
      exact Bd.add ((Bd.cmul _ k).up (by omega)) ((Bd.Xmul ih).up (by omega))
def ev : Nat → Ps R → R → R
  | 0, _, _ => 0
  | n + 1, f, x => f.cf 0 + x * ev n (shp f) x
theorem ev_zero (n : Nat) (x : R) : ev n (0 : Ps R) x = 0 := by
  induction n with
  | zero => rfl
  | succ n ih =>
    have : shp (0 : Ps R) = 0 := ext fun k => (zero_cf (R := R) (k + 1)).trans (zero_cf k).symm
    show (0 : Ps R).cf 0 + x * ev n (shp 0) x = 0
    rw [this, ih, zero_cf]; grind
theorem ev_up : ∀ {n m : Nat} {f : Ps R} (x : R), Bd n f → n ≤ m → ev m f x = ev n f x
  | 0, m, f, x, h, l => by rw [h.nil, ev_zero]; rfl
  | n + 1, 0, f, x, h, l => by omega
  | n + 1, m + 1, f, x, h, l => by
    show f.cf 0 + x * ev m (shp f) x = f.cf 0 + x * ev n (shp f) x
    rw [ev_up x h.shp (by omega)]
theorem ev_add (n : Nat) : ∀ (f g : Ps R) (x : R), ev n (f + g) x = ev n f x + ev n g x := by
  induction n with
  | zero => intro f g x; show (0 : R) = 0 + 0; grind
  | succ n ih =>
    intro f g x
    have := ih (shp f) (shp g) x
    show (f.cf 0 + g.cf 0) + x * ev n (shp f + shp g) x = _ + x * ev n (shp f) x + (_ + x * ev n (shp g) x)
    rw [this]
    grind
theorem ev_cmul (n : Nat) : ∀ (r : R) (f : Ps R) (x : R), ev n (c r * f) x = r * ev n f x := by
  induction n with
  | zero => intro r f x; show (0 : R) = r * 0; grind
  | succ n ih =>
    intro r f x
    have e : shp (c r * f) = c r * shp f := ext fun k => by
      show (c r * f).cf (k + 1) = _
      rw [c_mul, c_mul]; rfl
    show (c r * f).cf 0 + x * ev n (shp (c r * f)) x = r * (f.cf 0 + x * ev n (shp f) x)
    rw [e, ih, c_mul]
    grind
theorem ev_X (n : Nat) (f : Ps R) (x : R) : ev (n + 1) (X * f) x = x * ev n f x := by
  show (X * f).cf 0 + x * ev n (shp (X * f)) x = _
  have : shp (X * f) = f := ext fun k => X_succ f k
  rw [this, X_zero]; grind
theorem ev_mul : ∀ {n m l : Nat} {f g : Ps R} (x : R), Bd n f → Bd m g → n + m ≤ l → ev l (f * g) x = ev n f x * ev m g x
  | 0, m, l, f, g, x, h, k, e => by
    rw [h.nil]
    have : (0 : Ps R) * g = 0 := by grind
    rw [this, ev_zero]
    show (0 : R) = 0 * _
    grind
  | n + 1, m, 0, f, g, x, h, k, e => by omega
  | n + 1, m, l + 1, f, g, x, h, k, e => by
    have e1 : f * g = Ps.c (f.cf 0) * g + X * (Ps.shp f * g) := by
      conv => lhs; rw [split f]
      grind
    rw [e1, ev_add, ev_cmul, ev_X, ev_mul x h.shp k (by omega), ev_up x k (show m ≤ l + 1 by omega)]
    show _ = (f.cf 0 + x * ev n (shp f) x) * ev m g x
    grind
theorem ev_c (n : Nat) (r x : R) : ev (n + 1) (c r) x = r := by
  show r + x * ev n (shp (c r)) x = r
  have : shp (c r) = 0 := ext fun k => by rw [zero_cf]; rfl
  rw [this, ev_zero]; grind
end Ps
end Pd
set_option maxHeartbeats 2000000
namespace Pd
open PySem PySem.Spec L2
theorem ic_ne {d : Int} (h : d ≠ 0) : (d : Rat) ≠ 0 := fun z => h (Rat.intCast_inj.mp (by rw [z]; rfl))
theorem ic_eq {a b : Int} (h : (a : Rat) = (b : Rat)) : a = b := Rat.intCast_inj.mp h
theorem rat_div_eq {a b c d : Int} (hb : b ≠ 0) (hd : d ≠ 0) : (a : Rat) / b = (c : Rat) / d ↔ a * d = c * b := by
  have h1 := ic_ne hb
  have h2 := ic_ne hd
  constructor
  · intro h
    apply ic_eq
    rw [Rat.intCast_mul, Rat.intCast_mul]
    grind
  · intro h
    have : (a : Rat) * d = c * b := by rw [← Rat.intCast_mul, ← Rat.intCast_mul, h]
    grind
def fv (a : Fr) : Rat := (a.num : Rat) / (a.den : Rat)
structure FrS (a : Fr) (b : Nat) : Prop where
  pos : 0 < a.den
  cop : Int.gcd a.num a.den = 1
  n : Sm a.num b
  d : Sm a.den b
theorem FrS.up {a : Fr} {b c : Nat} (h : FrS a b) (l : b ≤ c) : FrS a c := ⟨h.pos, h.cop, h.n.up l, h.d.up l⟩
theorem FrS.ne {a : Fr} {b : Nat} (h : FrS a b) : (a.den : Rat) ≠ 0 := ic_ne (by have := h.pos; omega)
theorem FrS.num {a : Fr} {b : Nat} (h : FrS a b) : (a.num : Rat) = fv a * a.den := by
  have := h.ne
  unfold fv; grind
theorem frac_mk {n d : Int} {b : Nat} (hd : d ≠ 0) (h1 : Sm n b) (h2 : Sm d b) : v_Fraction_init n d ∧ FrS (q_Fraction_init n d) b ∧ fv (q_Fraction_init n d) = (n : Rat) / (d : Rat) := by
  obtain ⟨v, e⟩ := frac_spec (n := n) hd
  refine ⟨v, ?_, ?_⟩
  · rw [e]
    exact ⟨frQ_pos hd, fr_gcd hd, frP_sm hd h1, frQ_sm hd h2⟩
  · rw [e]
    show (frP n d : Rat) / (frQ n d : Rat) = _
    rw [rat_div_eq (by have := frQ_pos (n := n) hd; omega) hd]
    exact fr_cross hd
theorem fr_self {a : Fr} {b : Nat} (h : FrS a b) : fr a.num a.den = a := by
  have hd : a.den ≠ 0 := by have := h.pos; omega
  have g : frS a.num a.den = 1 := by
    unfold frS
    rw [if_neg (by have := h.pos; omega), h.cop]; rfl
  obtain ⟨x, y⟩ := a
  show (⟨frP x y, frQ x y⟩ : Fr) = ⟨x, y⟩
  have e1 := frP_mul (n := x) (d := y) hd
  have e2 := frQ_mul (n := x) (d := y) hd
  rw [g] at e1 e2
  rw [show frP x y = x by omega, show frQ x y = y by omega]
theorem fv_inj {a a' : Fr} {b b' : Nat} (h : FrS a b) (h' : FrS a' b') (e : fv a = fv a') : a = a' := by
  rw [← fr_self h, ← fr_self h']
  exact fr_ext (by have := h.pos; omega) (by have := h'.pos; omega) ((rat_div_eq (by have := h.pos; omega) (by have := h'.pos; omega)).mp e)
theorem fv_zero {a : Fr} {b : Nat} (h : FrS a b) : fv a = 0 ↔ a.num = 0 := by
  have := h.num
  have h2 := h.ne
  constructor
  · intro e
    rw [e] at this
    apply ic_eq
    grind
  · intro e
    rw [e] at this
    grind
def po (xs : List Int) (d : Int) : Po := ⟨plC xs d, plD xs d⟩
theorem trim_spec {xs : List Int} : v_trimmed xs ∧ q_trimmed xs = trim xs := by
  have := whV_inv (t := fun (s1 : Int) => ((decide (s1 > (0 : Int))) && (decide ((gt xs (s1 - (1 : Int))) = (0 : Int))))) (Vt := fun (s1 : Int) => ((decide (s1 > (0 : Int))) = true → inR xs (s1 - (1 : Int)))) (f := fun (s1 : Int) => q_trimmed_2 xs s1) (V := fun (s1 : Int) => True)
    (fun n s => s = (n : Int) ∧ n ≤ xs.length ∧ tsz xs ≤ n) xs.length (s := (xs.length : Int)) ⟨rfl, Nat.le_refl _, tsz_le xs⟩ fun n s ⟨h1, h2, h3⟩ => by
      subst h1
      refine ⟨fun hp => by have := of_decide_eq_true hp; unfold inR; omega, ?_⟩
      cases n with
      | zero => left; rfl
      | succ n =>
        have e : ((n + 1 : Nat) : Int) - 1 = (n : Int) := by omega
        by_cases hz : co xs n = 0
        · right
          refine ⟨by rw [e, gt_co, hz]; simp, trivial, n, by omega, ?_, by omega, ?_⟩
          · show ((n + 1 : Nat) : Int) - 1 = _; omega
          · rcases Nat.lt_or_ge n (tsz xs) with l | l
            · exact absurd hz (by have := tsz_last xs (by omega); rwa [show tsz xs - 1 = n by omega] at this)
            · exact l
        · left
          rw [e, gt_co, decide_eq_false hz, Bool.and_false]
  obtain ⟨v, k, ⟨h1, h2, h3⟩, h4⟩ := this
  refine ⟨v, ?_⟩
  show cutT xs none (some (wh (fun (s1 : Int) => ((decide (s1 > (0 : Int))) && (decide ((gt xs (s1 - (1 : Int))) = (0 : Int))))) (fun (s1 : Int) => q_trimmed_2 xs s1) (xs.length : Int))) = _
  generalize wh (fun (s1 : Int) => ((decide (s1 > (0 : Int))) && (decide ((gt xs (s1 - (1 : Int))) = (0 : Int))))) (fun (s1 : Int) => q_trimmed_2 xs s1) (xs.length : Int) = s at *
  subst h1
  rw [cut_take h2]
  unfold trim
  congr 1
  cases k with
  | zero => omega
  | succ n =>
    have e : ((n + 1 : Nat) : Int) - 1 = (n : Int) := by omega
    have hz : co xs n ≠ 0 := fun z => by
      rw [e, gt_co, decide_eq_true z] at h4
      simp at h4
    rcases Nat.lt_or_ge n (tsz xs) with l | l
    · omega
    · exact absurd (tsz_zero xs n l) hz
theorem content_spec (xs : List Int) : q_content xs = (cont xs : Int) := by
  show xs.foldl (fun (s1 : Int) (x2 : Int) => (Int.gcd s1 x2 : Int)) 0 = _
  exact foldl_int xs 0
theorem polyInit_spec {xs : List Int} {d : Int} (hd : d ≠ 0) (hl : xs.length ≤ 10000000) : v_Poly_init xs d ∧ q_Poly_init xs d = po xs d := by
  obtain ⟨v, e⟩ := trim_spec (xs := xs)
  have es : q_Poly_init_5 d (trim xs) (Int.gcd (q_content (trim xs)) d : Int) = plS xs d := by
    show (if decide (d < 0) = true then -((Int.gcd (q_content (trim xs)) d : Nat) : Int) else ((Int.gcd (q_content (trim xs)) d : Nat) : Int)) = _
    rw [content_spec]
    unfold plS
    by_cases h : d < 0
    · rw [if_pos (decide_eq_true h), if_pos h]; rfl
    · rw [if_neg (by simpa using h), if_neg h]; rfl
  constructor
  · refine ⟨decide_eq_false hd, v, ?_⟩
    show v_Poly_init_6 d (q_trimmed xs) (q_Poly_init_5 d (q_trimmed xs) (Int.gcd (q_content (q_trimmed xs)) d : Int))
    rw [e, es]
    refine ⟨fun _ _ => plS_ne hd, line_le (by rw [trim_len]; have := tsz_le xs; omega), plS_ne hd⟩
  · show (⟨(q_Poly_init_6 d (q_trimmed xs) (q_Poly_init_5 d (q_trimmed xs) (Int.gcd (q_content (q_trimmed xs)) d : Int))).1, (q_Poly_init_6 d (q_trimmed xs) (q_Poly_init_5 d (q_trimmed xs) (Int.gcd (q_content (q_trimmed xs)) d : Int))).2⟩ : Po) = _
    rw [e, es]; rfl
structure PoS (p : Po) (n b : Nat) : Prop where
  pos : 0 < p.den
  cop : Nat.gcd (cont p.coefs) p.den.natAbs = 1
  last : p.coefs ≠ [] → co p.coefs (p.coefs.length - 1) ≠ 0
  len : p.coefs.length ≤ n
  c : ∀ k, Sm (co p.coefs k) b
  d : Sm p.den b
theorem PoS.up {p : Po} {n b m c : Nat} (h : PoS p n b) (l : n ≤ m) (l' : b ≤ c) : PoS p m c := ⟨h.pos, h.cop, h.last, by have := h.len; omega, fun k => (h.c k).up l', h.d.up l'⟩
def pv (p : Po) : Ps Rat := ⟨fun k => (co p.coefs k : Rat) / (p.den : Rat)⟩
def lv (xs : List Int) : Ps Rat := ⟨fun k => (co xs k : Rat)⟩
theorem PoS.ne {p : Po} {n b : Nat} (h : PoS p n b) : (p.den : Rat) ≠ 0 := ic_ne (by have := h.pos; omega)
theorem PoS.ne' {p : Po} {n b : Nat} (h : PoS p n b) : p.den ≠ 0 := by have := h.pos; omega
theorem PoS.tsz {p : Po} {n b : Nat} (h : PoS p n b) : tsz p.coefs = p.coefs.length := tsz_eq (fun k hk => co_ge hk) fun hn => h.last fun e => hn (by rw [e]; rfl)
theorem poly_mk {xs : List Int} {d : Int} {n b : Nat} (hd : d ≠ 0) (hl : xs.length ≤ n) (hn : n ≤ 10000000) (h1 : ∀ k, Sm (co xs k) b) (h2 : Sm d b) : v_Poly_init xs d ∧ PoS (q_Poly_init xs d) n b ∧ ∀ k, (pv (q_Poly_init xs d)).cf k = (co xs k : Rat) / (d : Rat) := by
  obtain ⟨v, e⟩ := polyInit_spec (xs := xs) hd (by omega)
  refine ⟨v, ?_, ?_⟩
  · rw [e]
    exact ⟨plD_pos hd, pl_gcd hd, plC_last hd, by show (plC xs d).length ≤ n; rw [plC_len]; have := tsz_le xs; omega, fun k => (h1 k).le (plC_small hd k), h2.le (plD_small hd)⟩
  · intro k
    rw [e]
    show (co (plC xs d) k : Rat) / (plD xs d : Rat) = _
    rw [rat_div_eq (by have := plD_pos (xs := xs) hd; omega) hd]
    exact pl_cross hd k
theorem po_self {p : Po} {n b : Nat} (h : PoS p n b) : po p.coefs p.den = p := by
  have t : trim p.coefs = p.coefs := by unfold trim; rw [h.tsz, List.take_length]
  have g : plS p.coefs p.den = 1 := by
    unfold plS
    rw [t, h.cop, if_neg (by have := h.pos; omega)]; rfl
  obtain ⟨xs, d⟩ := p
  show (⟨plC xs d, plD xs d⟩ : Po) = _
  unfold plC plD
  dsimp only at t g
  rw [t, g]
  congr 1
  · conv => rhs; rw [← List.map_id xs]
    exact List.map_congr_left fun x _ => by simp
  · simp
theorem pv_inj {p q : Po} {n b m c : Nat} (h : PoS p n b) (h' : PoS q m c) (e : ∀ k, (pv p).cf k = (pv q).cf k) : p = q := by
  rw [← po_self h, ← po_self h']
  obtain ⟨e1, e2⟩ := pl_canon (xs := p.coefs) (xs' := q.coefs) h.ne' h'.ne' fun k => (rat_div_eq h.ne' h'.ne').mp (e k)
  unfold po
  rw [e1, e2]
theorem pv_Bd {p : Po} {n b : Nat} (h : PoS p n b) : Ps.Bd n (pv p) := fun k hk => by
  show (co p.coefs k : Rat) / p.den = 0
  rw [co_ge (by have := h.len; omega)]
  grind
theorem pv_len {p : Po} {n b m : Nat} (h : PoS p n b) (l : Ps.Bd m (pv p)) : p.coefs.length ≤ m := by
  rcases Nat.lt_or_ge m p.coefs.length with q | q
  · have h0 := l (p.coefs.length - 1) (by omega)
    have h1 := h.last fun e => by rw [e] at q; simp at q
    have : (co p.coefs (p.coefs.length - 1) : Rat) / p.den = 0 := h0
    have h2 := h.ne
    have h3 := ic_ne h1
    grind
  · exact q
theorem PoS.coef {p : Po} {n b : Nat} (h : PoS p n b) (k : Nat) : (co p.coefs k : Rat) = (pv p).cf k * p.den := by
  have := h.ne
  show _ = (co p.coefs k : Rat) / p.den * p.den
  grind
end Pd
set_option maxHeartbeats 2000000
namespace Pd
open PySem PySem.Spec L2
theorem lv_cf (xs : List Int) (k : Nat) : (lv xs).cf k = (co xs k : Rat) := rfl
theorem lv_cons (a : Int) (xs : List Int) : lv (a :: xs) = Ps.c (a : Rat) + Ps.X * lv xs := Ps.ext fun k => by
  rw [Ps.add_cf]
  cases k with
  | zero => rw [Ps.X_zero]; show (a : Rat) = a + 0; grind
  | succ k => rw [Ps.X_succ]; show (co xs k : Rat) = 0 + (co xs k : Rat); grind
theorem lv_nil : lv [] = 0 := Ps.ext fun k => by rw [Ps.zero_cf]; show ((co [] k : Int) : Rat) = 0; rw [co_nil]; rfl
theorem lv_Bd {xs : List Int} {n : Nat} (h : xs.length ≤ n) : Ps.Bd n (lv xs) := fun k hk => by
  show ((co xs k : Int) : Rat) = 0
  rw [co_ge (by omega)]; rfl
theorem lv_mul (ys : List Int) : ∀ (xs : List Int) (k : Nat), (lv xs * lv ys).cf k = (mulc xs ys k : Rat)
  | [], k => by
    rw [lv_nil]
    have : (0 : Ps Rat) * lv ys = 0 := by grind
    rw [this, Ps.zero_cf]; rfl
  | a :: xs, k => by
    have e : lv (a :: xs) * lv ys = Ps.c (a : Rat) * lv ys + Ps.X * (lv xs * lv ys) := by rw [lv_cons]; grind
    rw [e, Ps.add_cf, Ps.c_mul]
    cases k with
    | zero =>
      rw [Ps.X_zero]
      show (a : Rat) * (co ys 0 : Rat) + 0 = ((a * co ys 0 + 0 : Int) : Rat)
      rw [Int.add_zero, Rat.intCast_mul]; grind
    | succ k =>
      rw [Ps.X_succ, lv_mul ys xs k]
      show (a : Rat) * (co ys (k + 1) : Rat) + (mulc xs ys k : Rat) = ((a * co ys (k + 1) + mulc xs ys k : Int) : Rat)
      rw [Rat.intCast_add, Rat.intCast_mul]
theorem pv_lv {p : Po} {n b : Nat} (h : PoS p n b) : lv p.coefs = Ps.c (p.den : Rat) * pv p := Ps.ext fun k => by
  rw [Ps.c_mul]
  show (co p.coefs k : Rat) = _
  rw [h.coef k]; grind
theorem mulc_sm {b c : Nat} {ys : List Int} (h2 : ∀ k, Sm (co ys k) c) : ∀ {xs : List Int}, (∀ k, Sm (co xs k) b) → ∀ k, Sm (mulc xs ys k) (b + c + xs.length)
  | [], _, k => Sm.zero (by have := (h2 0).pos; omega)
  | a :: xs, h1, k => by
    have ih := mulc_sm h2 (xs := xs) fun k => h1 (k + 1)
    have h0 : Sm (a * co ys k) (b + c) := (h1 0).mulUp (h2 k) (Nat.le_refl _)
    rw [List.length_cons]
    cases k with
    | zero =>
      show Sm (a * co ys 0 + 0) _
      rw [Int.add_zero]; exact h0.up (by omega)
    | succ k => exact (h0.addUp2 (ih k) (by omega) (by omega))
section
variable {a : Int} {ys zs r0 : List Int} {i j : Nat}
theorem row_step {r : List Int} (hl : r0.length = r.length) (hr : ∀ k, co r k = co r0 k + (if i ≤ k ∧ k < i + j then a * co ys (k - i) else 0)) (hij : i + j < r.length) :
    (setT r ((i : Int) + (j : Int)) (gt r ((i : Int) + (j : Int)) + a * co ys j)).length = r.length ∧ ∀ k, co (setT r ((i : Int) + (j : Int)) (gt r ((i : Int) + (j : Int)) + a * co ys j)) k = co r0 k + (if i ≤ k ∧ k < i + (j + 1) then a * co ys (k - i) else 0) := by
  have e : (i : Int) + (j : Int) = ((i + j : Nat) : Int) := by omega
  rw [e, setT_nat hij, gt_co]
  refine ⟨by rw [List.length_set], fun k => ?_⟩
  rw [co_set hij, hr (i + j)]
  by_cases h : k = i + j
  · subst h
    rw [if_pos rfl, if_neg (by omega), if_pos (by omega), Nat.add_sub_cancel_left]; omega
  · rw [if_neg h, hr k]
    by_cases h2 : i ≤ k ∧ k < i + j
    · rw [if_pos h2, if_pos (by omega)]
    · rw [if_neg h2, if_neg (by omega)]
end
theorem row_end {a : Int} {ys : List Int} {i : Nat} {x : Int} (k : Nat) : x + (if i ≤ k ∧ k < i + ys.length then a * co ys (k - i) else 0) = x + (if i ≤ k then a * co ys (k - i) else 0) := by
  by_cases h : i ≤ k
  · by_cases h2 : k < i + ys.length
    · rw [if_pos ⟨h, h2⟩, if_pos h]
    · rw [if_neg (by omega), if_pos h, co_ge (by omega)]; omega
  · rw [if_neg (by omega), if_neg h]
theorem take_succ_co {xs : List Int} {i : Nat} (h : i < xs.length) : xs.take (i + 1) = xs.take i ++ [co xs i] := by
  rw [List.take_succ, co_lt h]; rfl
theorem mulc_step {xs ys : List Int} {i : Nat} (h : i < xs.length) (k : Nat) : mulc (xs.take (i + 1)) ys k = mulc (xs.take i) ys k + (if i ≤ k then co xs i * co ys (k - i) else 0) := by
  rw [take_succ_co h, mulc_snoc, List.length_take, Nat.min_eq_left (by omega)]
section
variable {p q : Po} {n b m c : Nat}
end
end Pd
set_option maxHeartbeats 2000000
namespace Pd
open PySem PySem.Spec L2
def Drawn (xs : List Int) (n : Nat) : Prop := xs.length = n ∧ ∀ x ∈ xs, 0 ≤ x ∧ x < 1000000
theorem Drawn.app {xs : List Int} {n : Nat} {z : Int} (h : Drawn xs n) (h0 : 0 ≤ z ∧ z < 1000000) : Drawn (xs ++ [z]) (n + 1) := ⟨by simp [h.1], fun x hx => by
  rcases List.mem_append.mp hx with k | k
  · exact h.2 x k
  · rw [List.mem_singleton.mp k]; exact h0⟩
theorem Drawn.co {xs : List Int} {n : Nat} (h : Drawn xs n) (k : Nat) : 0 ≤ co xs k ∧ co xs k < 1000000 := by
  by_cases hk : k < xs.length
  · exact h.2 _ (List.mem_of_getElem? (co_lt hk))
  · rw [co_ge (by omega)]; omega
theorem Drawn.at {xs : List Int} {n : Nat} (h : Drawn xs n) {i : Int} (h0 : 0 ≤ i) (h1 : i < n) : inR xs i ∧ ∃ x : Int, gt xs i = x ∧ 0 ≤ x ∧ x < 1000000 := by
  obtain ⟨k, rfl⟩ := Int.eq_ofNat_of_zero_le h0
  refine ⟨inR_nat (by have := h.1; omega), _, gt_co xs k, h.co k⟩
theorem gt_mem {xs : List Int} {i : Int} (h : inR xs i) : gt xs i ∈ xs := by
  obtain ⟨j, h1, h2⟩ := inR_ix h
  unfold gt atI
  rw [h1]
  show (xs[j]?).getD default ∈ xs
  rw [List.getElem?_eq_getElem h2]
  exact List.getElem_mem h2
theorem numbers_spec {ns : List Int} (hl : ns.length ≤ 63) (hb : ∀ z ∈ ns, Builtin.Int.intBits z ≤ 1048576) (n : Nat) (hn : n ≤ 1000) : v_law_numbers ns (n : Int) ∧ Drawn (q_law_numbers ns (n : Int)) n := by
  have hr : inR ns 0 ∨ ¬ (ns.length : Int) > 0 := by unfold inR; omega
  have main : ∀ (rest : Int) (byd : Bool), forV (fun (s5 : Int × (List Int)) (x6 : Int) => v_law_numbers_7 ns s5.1 byd s5.2 x6) (fun (s5 : Int × (List Int)) (x6 : Int) => q_law_numbers_7 ns s5.1 byd s5.2 x6) (rngT 0 (n : Int)) (rest, []) ∧ Drawn ((rngT 0 (n : Int)).foldl (fun (s5 : Int × (List Int)) (x6 : Int) => q_law_numbers_7 ns s5.1 byd s5.2 x6) (rest, [])).2 (rngT 0 (n : Int)).length := by
    intro rest byd
    refine forV_inv0 (V := fun (s5 : Int × (List Int)) (x6 : Int) => v_law_numbers_7 ns s5.1 byd s5.2 x6) (f := fun (s5 : Int × (List Int)) (x6 : Int) => q_law_numbers_7 ns s5.1 byd s5.2 x6) (fun i s => Drawn s.2 i) ⟨rfl, fun x hx => nomatch hx⟩ fun i x s hx hs => ?_
    obtain ⟨r, xs⟩ := s
    obtain ⟨hi, e⟩ := rngT0_get hx
    subst e
    have hln : xs.length < LINE := line_lt (by have := hs.1; dsimp only at this; omega)
    show v_law_numbers_7 ns r byd xs i ∧ Drawn (q_law_numbers_7 ns r byd xs i).2 (i + 1)
    unfold v_law_numbers_7 q_law_numbers_7
    by_cases hc : (byd && decide (r > 0)) = true
    · rw [if_pos hc]
      refine ⟨⟨fun _ => hln, fun h => by rw [hc] at h; cases h⟩, ?_⟩
      exact hs.app (fmod_pos (by decide))
    · rw [if_neg hc]
      have cell : ∃ z : Int, q_law_numbers_13 ns r byd xs i 13 = z ∧ mulOk z 48271 = true ∧ ((decide ((ns.length : Int) > 0)) = true → v_law_numbers_12 ns r byd xs i 13) := by
        by_cases hp : (ns.length : Int) > 0
        · obtain ⟨m0, m1⟩ := fmod_pos (i := (i : Int)) (j := ns.length) hp
          have ir : inR ns ((i : Int).fmod ns.length) := inR_i m0 m1
          refine ⟨_, ?_, cell_ok hb (gt_mem ir) (i := i) (by omega), fun _ => ⟨by omega, ir, mulOk_of 30 30 (by decide) (by omega)⟩⟩
          show (if decide ((ns.length : Int) > 0) = true then _ else _) = _
          rw [if_pos (decide_eq_true hp)]; rfl
        · refine ⟨13, ?_, mulOk_of 10 20 (by decide) (by decide), fun h => absurd (of_decide_eq_true h) hp⟩
          show (if decide ((ns.length : Int) > 0) = true then _ else _) = _
          rw [if_neg (by simpa using hp)]
      obtain ⟨z, ez, hz, hv⟩ := cell
      refine ⟨⟨fun h => absurd h hc, fun _ => ⟨hv, ?_⟩⟩, ?_⟩
      · rw [ez]
        have g1 := fmod_pos (i := z * 48271) (j := 2147483647) (by decide)
        exact ⟨hz, mulOk_of 40 20 (by omega) (by decide), hln⟩
      · show Drawn (xs ++ [((((q_law_numbers_13 ns r byd xs i 13) * 48271).fmod 2147483647 * 69621).fmod 2147483629).fmod 1000000]) (i + 1)
        exact hs.app (fmod_pos (by decide))
  rw [rngT0_length] at main
  constructor
  · refine ⟨fun h => ?_, rOk_nat (by omega), (main _ _).1⟩
    have := of_decide_eq_true h
    show inR ns 0
    unfold inR; omega
  · exact (main _ _).2
abbrev ci (e : Int) : Ps Rat := Ps.c (e : Rat)
theorem ci_mul (a b : Int) : ci (a * b) = ci a * ci b := by unfold ci; rw [Rat.intCast_mul, Ps.c_mulc]
theorem ci_neg (a : Int) : ci (-a) = -ci a := by unfold ci; rw [Rat.intCast_neg, Ps.c_neg]
theorem ci_one : ci 1 = 1 := rfl
theorem ci_can {e : Int} {f g : Ps Rat} (he : e ≠ 0) (h : ci e * f = ci e * g) : f = g := Ps.ext fun k => by
  have h1 : (ci e * f).cf k = (ci e * g).cf k := by rw [h]
  rw [Ps.c_mul, Ps.c_mul] at h1
  have := ic_ne he
  grind
structure LS (xs : List Int) (n b : Nat) : Prop where
  len : xs.length ≤ n
  c : ∀ k, Sm (co xs k) b
theorem LS.up {xs : List Int} {n b m c : Nat} (h : LS xs n b) (l : n ≤ m) (l' : b ≤ c) : LS xs m c := ⟨by have := h.len; omega, fun k => (h.c k).up l'⟩
theorem LS.nil {b : Nat} (h : 0 < b) : LS [] 0 b := ⟨Nat.le_refl _, fun k => by rw [co_nil]; exact Sm.zero h⟩
theorem LS.app {xs : List Int} {n b : Nat} {z : Int} (h : LS xs n b) (hz : Sm z b) : LS (xs ++ [z]) (n + 1) b := ⟨by have := h.len; simp; omega, fun k => by
  rw [co_app]
  split
  · exact h.c k
  · by_cases e : k - xs.length = 0
    · rw [e]; exact hz
    · rw [co_ge (by simp; omega)]; exact Sm.zero (h.c 0).pos⟩
theorem LS.mem {xs : List Int} {n b : Nat} (h : LS xs n b) {x : Int} (hx : x ∈ xs) : Sm x b := by
  obtain ⟨i, hi⟩ := List.getElem?_of_mem hx
  have := co_lt (List.getElem?_eq_some_iff.mp hi).1
  rw [hi] at this
  rw [Option.some.inj this]
  exact h.c i
theorem LS.po {xs : List Int} {n b : Nat} {d : Int} (h : LS xs n b) (hd : d ≠ 0) (hn : n ≤ 10000000) (h2 : Sm d b) : v_Poly_init xs d ∧ PoS (q_Poly_init xs d) n b ∧ lv xs = ci d * pv (q_Poly_init xs d) := by
  obtain ⟨v, s, e⟩ := poly_mk hd h.len hn h.c h2
  refine ⟨v, s, Ps.ext fun k => ?_⟩
  have := ic_ne hd
  rw [Ps.c_mul, e k, lv_cf]
  grind
theorem PoS.ls {p : Po} {n b : Nat} (h : PoS p n b) : LS p.coefs n b := ⟨h.len, h.c⟩
theorem coefs_spec {L : List Int} {m : Nat} (hL : Drawn L m) {st : Nat} {size : Nat} (h : st + size ≤ m) (hm : m ≤ 1000) : v_law_coefs L (st : Int) (size : Int) ∧ LS (q_law_coefs L (st : Int) (size : Int)) size 4 := by
  have := forV_inv0 (V := fun (s2 : (List Int)) (x3 : Int) => v_law_coefs_2 L (st : Int) s2 x3) (f := fun (s2 : (List Int)) (x3 : Int) => q_law_coefs_2 L (st : Int) s2 x3) (xs := rngT 0 (size : Int)) (s := [])
    (fun i xs => LS xs i 4) (LS.nil (by decide)) fun i x xs hx hs => by
      obtain ⟨hi, e⟩ := rngT0_get hx
      subst e
      have hln : xs.length < LINE := line_lt (by have := hs.len; omega)
      obtain ⟨ir, z, hz, z0, z1⟩ := hL.at (i := (st : Int) + i) (by omega) (by omega)
      refine ⟨⟨ir, fun _ => hln, fun _ => hln⟩, ?_⟩
      show LS (q_law_coefs_2 L (st : Int) xs i) (i + 1) 4
      unfold q_law_coefs_2
      rw [hz]
      unfold q_law_coefs_3
      split
      · exact hs.app (Sm.zero (by decide))
      · have g := fmod_pos (i := z.fdiv 4) (j := 25) (by decide)
        exact hs.app (sm_range (-12) 12 (by omega) (by omega) (by decide) (by decide) (by decide))
  rw [rngT0_length] at this
  obtain ⟨v, e⟩ := this
  exact ⟨⟨rOk_nat (by omega), v⟩, e⟩
theorem lawPolyIs_spec {p : Po} {zs : List Int} {e : Int} {n b m c : Nat} (hp : PoS p n b) (hz : LS zs m c) (he : Sm e c) (he0 : e ≠ 0) (hb : b ≤ 40000000) (hc : c ≤ 40000000) (hn : n ≤ 1000000) (hm : m ≤ 1000000) (h : ∀ k, (pv p).cf k = (co zs k : Rat) / (e : Rat)) : v_law_poly_is p zs e ∧ q_law_poly_is p zs e = true := by
  have l1 := hp.len
  have l2 := hz.len
  have h' : ∀ k, co p.coefs k * e = co zs k * p.den := fun k => (rat_div_eq hp.ne' he0).mp (h k)
  have c1 : (!true || (!true || (!q_law_is_integer p.den || decide (p.den < 1)))) = false := by
    have := hp.pos
    rw [is_integer]; simp; omega
  -- the greatest common divisor
  obtain ⟨w1, s, e1, hs⟩ := forX_inv0 (τ := Empty) (V := fun (s6 : Int) (x7 : Int) => v_law_poly_is_4 p zs e s6 x7) (f := fun (s6 : Int) (x7 : Int) => q_law_poly_is_4 p zs e s6 x7) (xs := p.coefs) (s := p.den)
    (fun i s => s = ((Nat.gcd (cont (p.coefs.take i)) p.den.natAbs : Nat) : Int)) (by
      have := hp.pos
      show p.den = ((Nat.gcd 0 p.den.natAbs : Nat) : Int)
      rw [Nat.gcd_zero_left]; omega) fun i x s hx hs => by
      obtain ⟨v, e3⟩ := divisor_spec s x
      have hi : i < p.coefs.length := (List.getElem?_eq_some_iff.mp hx).1
      rw [co_lt hi] at hx
      have hx := Option.some.inj hx
      refine ⟨fun _ => v, q_law_divisor s x, ?_, ?_⟩
      · show (if (!(q_law_is_integer x)) = true then Fl.rt q_law_poly_is_5 else Fl.nx (q_law_divisor s x)) = _
        rw [is_integer]; rfl
      · rw [e3, hs, take_succ_co hi]
        have : cont (p.coefs.take i ++ [co p.coefs i]) = Nat.gcd (cont (p.coefs.take i)) (co p.coefs i).natAbs := by
          unfold cont
          rw [List.foldl_append]; rfl
        rw [this, ← hx]
        show ((Nat.gcd (Nat.gcd (cont (p.coefs.take i)) p.den.natAbs) (co p.coefs i).natAbs : Nat) : Int) = _
        rw [Nat.gcd_assoc, Nat.gcd_assoc, Nat.gcd_comm p.den.natAbs]
  rw [List.take_length, hp.cop] at hs
  subst hs
  have c2 : (!decide (((1 : Nat) : Int) = (1 : Int)) || ((decide ((p.coefs.length : Int) > (0 : Int))) && (decide ((gt p.coefs (-(1 : Int))) = (0 : Int))))) = false := by
    by_cases h0 : p.coefs.length = 0
    · rw [h0]; rfl
    · have hl := hp.last fun z => h0 (by rw [z]; rfl)
      have hg : gt p.coefs (-(1 : Int)) = co p.coefs (p.coefs.length - 1) := by
        rw [show (-(1 : Int)) = -1 from rfl, gt_neg (by omega)]
        have := co_lt (xs := p.coefs) (k := p.coefs.length - 1) (by omega)
        rw [List.getElem?_eq_getElem (by omega)] at this
        exact Option.some.inj this
      rw [hg, decide_eq_false hl, Bool.and_false]; rfl
  have z1 : ((rngT 0 ((max (p.coefs.length : Int) (zs.length : Int)) - (p.coefs.length : Int))).map fun (x13 : Int) => (0 : Int)) = List.replicate (max p.coefs.length zs.length - p.coefs.length) 0 := by
    rw [rng_zeros]; congr 1; omega
  have z2 : ((rngT 0 ((max (p.coefs.length : Int) (zs.length : Int)) - (zs.length : Int))).map fun (x13 : Int) => (0 : Int)) = List.replicate (max p.coefs.length zs.length - zs.length) 0 := by
    rw [rng_zeros]; congr 1; omega
  obtain ⟨w2, e2⟩ := forX_all (τ := Empty) (V := fun (s18 : Unit) (x19 : Int) => v_law_poly_is_14 p e (p.coefs ++ List.replicate (max p.coefs.length zs.length - p.coefs.length) 0) x19 (zs ++ List.replicate (max p.coefs.length zs.length - zs.length) 0)) (f := fun (s18 : Unit) (x19 : Int) => q_law_poly_is_14 p e (p.coefs ++ List.replicate (max p.coefs.length zs.length - p.coefs.length) 0) x19 (zs ++ List.replicate (max p.coefs.length zs.length - zs.length) 0)) (xs := rngT 0 (max (p.coefs.length : Int) (zs.length : Int))) fun i x hx => by
      have : max (p.coefs.length : Int) (zs.length : Int) = ((max p.coefs.length zs.length : Nat) : Int) := by omega
      rw [this] at hx
      obtain ⟨hi, e3⟩ := rngT0_get hx
      subst e3
      constructor
      · refine ⟨inR_nat (by simp; omega), ?_, inR_nat (by simp; omega), ?_⟩
        · rw [gt_co, co_pad]; exact mulOk_sm (hp.c i) he (by omega)
        · rw [gt_co, co_pad]; exact mulOk_sm (hz.c i) hp.d (by omega)
      · show (if (!decide (_ = _)) = true then Fl.rt q_law_poly_is_15 else Fl.nx ()) = _
        rw [gt_co, co_pad, gt_co, co_pad, decide_eq_true (h' i)]; rfl
  have E13 : q_law_poly_is_10 p zs e = true := by
    show ((forX (fun (s18 : Unit) (x19 : Int) => q_law_poly_is_14 p e _ x19 _) (rngT 0 (max (p.coefs.length : Int) (zs.length : Int))) () : Fl Unit Empty Bool).fin fun s21 => q_law_poly_is_17) = true
    rw [z1, z2, e2]; rfl
  have V10 : v_law_poly_is_10 p zs e := by
    refine ⟨rOk_of (by omega) (by omega), line_le (by rw [rngT_length]; omega), by simp only [z1]; exact line_le (by simp; omega), rOk_of (by omega) (by omega), line_le (by rw [rngT_length]; omega), by simp only [z2]; exact line_le (by simp; omega), rOk_of (by omega) (by omega), ?_⟩
    rw [z1, z2]; exact w2
  constructor
  · intro _
    refine ⟨w1, fun s9 h9 => ?_⟩
    have : s9 = ((1 : Nat) : Int) := by
      have h9' : (forX (fun (s6 : Int) (x7 : Int) => q_law_poly_is_4 p zs e s6 x7) p.coefs p.den : Fl Int Empty Bool) = .nx s9 := h9
      rw [e1] at h9'
      injection h9' with h9'; exact h9'.symm
    subst this
    refine ⟨fun _ h2 => by have := of_decide_eq_true h2; exact inR_neg (by omega), fun _ => V10⟩
  · show (if (!true || (!true || (!q_law_is_integer p.den || decide (p.den < 1)))) = true then q_law_poly_is_1 else (forX (fun (s6 : Int) (x7 : Int) => q_law_poly_is_4 p zs e s6 x7) p.coefs p.den : Fl Int Empty Bool).fin fun s9 => q_law_poly_is_8 p zs e s9) = true
    rw [if_neg (by rw [c1]; decide), e1]
    show (if (!decide (((1 : Nat) : Int) = (1 : Int)) || ((decide ((p.coefs.length : Int) > (0 : Int))) && (decide ((gt p.coefs (-(1 : Int))) = (0 : Int))))) = true then q_law_poly_is_9 else q_law_poly_is_10 p zs e) = true
    rw [if_neg (by rw [c2]; decide), E13]
theorem lawPolyIs_r {p : Po} {zs : List Int} {e : Int} {n b m c : Nat} (hp : PoS p n b) (hz : LS zs m c) (he : Sm e c) (he0 : e ≠ 0) (hb : b ≤ 40000000) (hc : c ≤ 40000000) (hn : n ≤ 1000000) (hm : m ≤ 1000000) (h : lv zs = ci e * pv p) : v_law_poly_is p zs e ∧ q_law_poly_is p zs e = true :=
  lawPolyIs_spec hp hz he he0 hb hc hn hm fun k => by
    have h1 : (lv zs).cf k = (ci e * pv p).cf k := by rw [h]
    rw [Ps.c_mul, lv_cf] at h1
    have := ic_ne he0
    grind
section
variable {xs ys : List Int} {n b m c : Nat}
theorem product_spec (hp : LS xs n b) (hq : LS ys m c) (hb : b ≤ 40000000) (hc : c ≤ 40000000) (hn : n ≤ 1000000) (hm : m ≤ 1000000) : v_law_product xs ys ∧ LS (q_law_product xs ys) (n + m) (b + c + n) ∧ lv (q_law_product xs ys) = lv xs * lv ys := by
  have ok : ∀ i j, mulOk (co xs i) (co ys j) = true := fun i j => mulOk_sm (hp.c i) (hq.c j) (by omega)
  have l1 := hp.len
  have l2 := hq.len
  have zl : ((rngT 0 ((xs.length : Int) + (ys.length : Int))).map fun (x1 : Int) => (0 : Int)) = List.replicate (xs.length + ys.length) 0 := by
    rw [rng_zeros]; congr 1
  have inner : ∀ (i : Nat) (r0 : List Int), i < xs.length → r0.length = xs.length + ys.length → v_law_product_2 xs ys r0 (i : Int) ∧ (q_law_product_2 xs ys r0 (i : Int)).length = r0.length ∧ ∀ k, co (q_law_product_2 xs ys r0 (i : Int)) k = co r0 k + (if i ≤ k then co xs i * co ys (k - i) else 0) := by
    intro i r0 hi hr0
    have := forV_inv0 (V := fun (s3 : (List Int)) (x4 : Int) => v_law_product_3 xs ys s3 (i : Int) x4) (f := fun (s3 : (List Int)) (x4 : Int) => q_law_product_3 xs ys s3 (i : Int) x4) (xs := rngT 0 (ys.length : Int)) (s := r0)
      (fun j r => r0.length = r.length ∧ ∀ k, co r k = co r0 k + (if i ≤ k ∧ k < i + j then co xs i * co ys (k - i) else 0)) ⟨rfl, fun k => by rw [if_neg (by omega)]; omega⟩ fun j x r hx ⟨h1, h2⟩ => by
        obtain ⟨hj, e⟩ := rngT0_get hx
        subst e
        obtain ⟨s1, s2⟩ := row_step h1 h2 (by omega : i + j < r.length)
        have iR : inR r ((i : Int) + (j : Int)) := by unfold inR; omega
        have k1 : gt xs (i : Int) = co xs i := gt_co _ _
        have k2 : gt ys (j : Int) = co ys j := gt_co _ _
        have e : q_law_product_3 xs ys r (i : Int) (j : Int) = setT r ((i : Int) + (j : Int)) (gt r ((i : Int) + (j : Int)) + co xs i * co ys j) := by unfold q_law_product_3; rw [k1, k2]
        refine ⟨⟨iR, inR_nat hi, inR_nat hj, by rw [k1, k2]; exact ok i j, iR⟩, ?_⟩
        show r0.length = (q_law_product_3 xs ys r (i : Int) (j : Int)).length ∧ ∀ k, co (q_law_product_3 xs ys r (i : Int) (j : Int)) k = _
        rw [e]
        exact ⟨h1.trans s1.symm, s2⟩
    obtain ⟨v, h1, h2⟩ := this
    refine ⟨⟨rOk_nat (by omega), v⟩, h1.symm, fun k => ?_⟩
    have := h2 k
    rw [rngT0_length] at this
    rw [← row_end k]; exact this
  have outer := forV_inv0 (V := fun (s7 : (List Int)) (x8 : Int) => v_law_product_2 xs ys s7 x8) (f := fun (s7 : (List Int)) (x8 : Int) => q_law_product_2 xs ys s7 x8) (xs := rngT 0 (xs.length : Int)) (s := List.replicate (xs.length + ys.length) 0)
      (fun i r => r.length = xs.length + ys.length ∧ ∀ k, co r k = mulc (xs.take i) ys k) ⟨by simp, fun k => by rw [co_repl]; simp [mulc]⟩ fun i x r hx ⟨h1, h2⟩ => by
        obtain ⟨hi, e⟩ := rngT0_get hx
        subst e
        obtain ⟨v, a1, a2⟩ := inner i r hi h1
        refine ⟨v, a1.trans h1, fun k => ?_⟩
        rw [mulc_step hi]
        show co (q_law_product_2 xs ys r (i : Int)) k = _
        rw [a2 k, h2 k]
  rw [rngT0_length, List.take_length] at outer
  obtain ⟨v, h1, h2⟩ := outer
  have eq0 : q_law_product xs ys = (rngT 0 (xs.length : Int)).foldl (fun (s7 : (List Int)) (x8 : Int) => q_law_product_2 xs ys s7 x8) (List.replicate (xs.length + ys.length) 0) := by
    show (rngT 0 (xs.length : Int)).foldl (fun (s7 : (List Int)) (x8 : Int) => q_law_product_2 xs ys s7 x8) ((rngT 0 ((xs.length : Int) + (ys.length : Int))).map fun (x1 : Int) => (0 : Int)) = _
    rw [zl]
  refine ⟨⟨rOk_of (by omega) (by omega), line_le (by rw [rngT_length]; omega), rOk_nat (by omega), ?_⟩, ⟨by rw [eq0, h1]; omega, fun k => by rw [eq0, h2 k]; exact (mulc_sm hq.c hp.c k).up (by omega)⟩, Ps.ext fun k => ?_⟩
  · rw [zl]; exact v
  · rw [lv_cf, eq0, h2 k, lv_mul]
end
end Pd
set_option maxHeartbeats 2000000
namespace Pd
open PySem PySem.Spec L2
def hz (x : Int) : List Int → Int
  | [] => 0
  | a :: as => a + x * hz x as
theorem hz_ev (x : Int) : ∀ (xs : List Int), Ps.ev xs.length (lv xs) (x : Rat) = (hz x xs : Rat)
  | [] => rfl
  | a :: as => by
    have e : Ps.shp (lv (a :: as)) = lv as := rfl
    show (a : Rat) + x * Ps.ev as.length (Ps.shp (lv (a :: as))) x = ((a + x * hz x as : Int) : Rat)
    rw [e, hz_ev x as, Rat.intCast_add, Rat.intCast_mul]
theorem hz_sm {x : Int} {b s : Nat} (hx : Sm x s) : ∀ {xs : List Int}, (∀ k, Sm (co xs k) b) → Sm (hz x xs) (b + xs.length * (s + 1))
  | [], h => Sm.zero (by have := (h 0).pos; simp; omega)
  | a :: as, h => by
    have ih := hz_sm hx (xs := as) fun k => h (k + 1)
    have h0 : Sm a b := h 0
    have e : (a :: as).length * (s + 1) = as.length * (s + 1) + (s + 1) := by rw [List.length_cons, Nat.succ_mul]
    rw [e]
    show Sm (a + x * hz x as) _
    exact h0.addUp2 (hx.mulUp ih (Nat.le_refl _)) (by omega) (by omega)
section
variable {p : Po} {n b : Nat}
theorem scaled_spec {f : Fr} {c : Nat} (hp : PoS p n b) (hf : FrS f c) (hn : n ≤ 1000000) (hb : b ≤ 40000000) (hc : c ≤ 40000000) : v_Poly_scaled p f ∧ PoS (q_Poly_scaled p f) n (b + c) ∧ pv (q_Poly_scaled p f) = Ps.c (fv f) * pv p := by
  have l1 := hp.len
  have cc : ∀ k, co (p.coefs.map fun (x1 : Int) => (x1 * f.num)) k = co p.coefs k * f.num := fun k => co_map (fun x => x * f.num) (by simp) _ k
  have hd : p.den * f.den ≠ 0 := Int.mul_ne_zero hp.ne' (by have := hf.pos; omega)
  obtain ⟨v, s, e⟩ := poly_mk (xs := p.coefs.map fun (x1 : Int) => (x1 * f.num)) (d := p.den * f.den) (n := n) (b := b + c) hd (by rw [List.length_map]; exact l1) (by omega) (fun k => by rw [cc k]; exact (hp.c k).mulUp hf.n (Nat.le_refl _)) (hp.d.mulUp hf.d (Nat.le_refl _))
  refine ⟨⟨fun x hx => mulOk_sm (hp.ls.mem hx) hf.n (by omega), line_le (by omega), mulOk_sm hp.d hf.d (by omega), v⟩, s, Ps.ext fun k => ?_⟩
  show (pv (q_Poly_init (p.coefs.map fun (x1 : Int) => (x1 * f.num)) (p.den * f.den))).cf k = _
  rw [e k, cc k, Ps.c_mul, Rat.intCast_mul, Rat.intCast_mul]
  show _ = (f.num : Rat) / f.den * ((co p.coefs k : Rat) / p.den)
  have := hp.ne
  have := hf.ne
  grind
end
end Pd
set_option maxHeartbeats 2000000
namespace Pd
open PySem PySem.Spec L2
namespace Ps
open Lean.Grind
variable {R : Type} [CommRing R]
def Xp (k : Nat) : Ps R := ⟨fun j => if j = k then 1 else 0⟩
theorem Xp_zero : (Xp 0 : Ps R) = 1 := ext fun k => by rw [one_cf]; rfl
theorem Xp_succ (k : Nat) : (Xp (k + 1) : Ps R) = X * Xp k := ext fun j => by
  cases j with
  | zero => rw [X_zero]; rfl
  | succ j =>
    rw [X_succ]
    show (if j + 1 = k + 1 then (1 : R) else 0) = if j = k then 1 else 0
    by_cases h : j = k
    · rw [if_pos h, if_pos (by omega)]
    · rw [if_neg h, if_neg (by omega)]
theorem Xp_mul (f : Ps R) : ∀ (k j : Nat), (Xp k * f).cf j = if k ≤ j then f.cf (j - k) else 0
  | 0, j => by
    rw [Xp_zero, if_pos (Nat.zero_le _)]
    have : (1 : Ps R) * f = f := by grind
    rw [this]; rfl
  | k + 1, j => by
    have e : Xp (k + 1) * f = X * (Xp k * f) := by rw [Xp_succ]; grind
    rw [e]
    cases j with
    | zero => rw [X_zero, if_neg (by omega)]
    | succ j =>
      rw [X_succ, Xp_mul f k j]
      by_cases h : k ≤ j
      · rw [if_pos h, if_pos (by omega), show j + 1 - (k + 1) = j - k by omega]
      · rw [if_neg h, if_neg (by omega)]
theorem mul_top : ∀ {n m : Nat} {f g : Ps R}, Bd (n + 1) f → Bd (m + 1) g → (f * g).cf (n + m) = f.cf n * g.cf m
  | 0, m, f, g, h, k => by
    have e : f * g = Ps.c (f.cf 0) * g + X * (Ps.shp f * g) := by
      conv => lhs; rw [split f]
      grind
    have z : Ps.shp f = 0 := (Bd.shp (n := 0) h).nil
    rw [e, z]
    have z2 : X * (0 * g) = 0 := by grind
    rw [z2, add_cf, zero_cf, c_mul, Nat.zero_add]
    grind
  | n + 1, m, f, g, h, k => by
    have e : f * g = Ps.c (f.cf 0) * g + X * (Ps.shp f * g) := by
      conv => lhs; rw [split f]
      grind
    have ih := mul_top (n := n) (m := m) h.shp k
    rw [e, show n + 1 + m = (n + m) + 1 by omega, add_cf, X_succ, ih, c_mul, k _ (by omega)]
    show f.cf 0 * 0 + f.cf (n + 1) * g.cf m = _
    grind
end Ps
theorem po_zero (p : Po) : q_Poly_is_zero p = decide (p.coefs.length = 0) := by
  show decide (((p.coefs.length : Nat) : Int) = 0) = _
  rw [decide_eq_decide]; omega
theorem rngD_length (a : Int) (n : Nat) : (rngD a n).length = n := by
  induction n generalizing a with
  | zero => rfl
  | succ n ih => simp [rngD, ih]
theorem rngD_get {a : Int} {n i : Nat} {x : Int} (h : (rngD a n)[i]? = some x) : i < n ∧ x = a - i := by
  induction n generalizing a i with
  | zero => simp [rngD] at h
  | succ n ih =>
    cases i with
    | zero => simp [rngD] at h; exact ⟨by omega, by rw [← h]; simp⟩
    | succ i =>
      obtain ⟨h1, h2⟩ := ih (a := a + -1) (i := i) (by simpa [rngD] using h)
      exact ⟨by omega, by rw [h2]; push_cast; omega⟩
theorem lv_map (f : Int) (xs : List Int) : lv (xs.map fun (x : Int) => f * x) = ci f * lv xs := Ps.ext fun k => by
  rw [Ps.c_mul, lv_cf, lv_cf, co_map (fun x => f * x) (by simp), Rat.intCast_mul]
theorem lv_mapr (f : Int) (xs : List Int) : lv (xs.map fun (x : Int) => x * f) = ci f * lv xs := Ps.ext fun k => by
  rw [Ps.c_mul, lv_cf, lv_cf, co_map (fun x => x * f) (by simp), Rat.intCast_mul]; grind
theorem lv_set {xs : List Int} {m : Nat} {v : Int} (h : m < xs.length) : lv (xs.set m (co xs m + v)) = lv xs + ci v * Ps.Xp m := Ps.ext fun k => by
  rw [Ps.add_cf, Ps.c_mul, lv_cf, lv_cf, co_set h]
  show _ = (co xs k : Rat) + v * (if k = m then 1 else 0)
  by_cases e : k = m
  · rw [if_pos e, if_pos e, Rat.intCast_add, e]; grind
  · rw [if_neg e, if_neg e]; grind
section
variable {p q : Po} {n b m c : Nat}
theorem lead_ne (hq : PoS q m c) (h0 : q.coefs.length ≠ 0) : co q.coefs (q.coefs.length - 1) ≠ 0 := hq.last fun e => h0 (by rw [e]; rfl)
theorem div_step (hq : PoS q m c) (h0 : q.coefs.length ≠ 0) {s j B S : Nat} {P : Ps Rat} {rest quo : List Int} {sc : Int} {N : Nat} (hN : N ≤ 1000000) (hr : rest.length = N) (hs : quo.length = s) (hsz : N = s + q.coefs.length - 1) (hj : j < s) (hB : B ≤ 40000000) (hc : c ≤ 40000000) (hS : S ≤ 40000000)
    (r1 : ∀ k, Sm (co rest k) B) (q1 : ∀ k, Sm (co quo k) B) (s1 : Sm sc S) (s0 : sc ≠ 0) (hz : ∀ k, j + 1 + q.coefs.length - 1 ≤ k → co rest k = 0) (id : ci sc * P = lv quo * lv q.coefs + lv rest) :
    v_divide_7 p q (q.coefs.length : Int) (co q.coefs (q.coefs.length - 1)) rest quo sc (j : Int) ∧ ∃ rest' quo' sc', q_divide_7 p q (q.coefs.length : Int) (co q.coefs (q.coefs.length - 1)) rest quo sc (j : Int) = (rest', quo', sc') ∧ rest'.length = N ∧ quo'.length = s ∧ (∀ k, Sm (co rest' k) (B + c + 1)) ∧ (∀ k, Sm (co quo' k) (B + c + 1)) ∧ Sm sc' (S + c) ∧ sc' ≠ 0 ∧ (∀ k, j + q.coefs.length - 1 ≤ k → co rest' k = 0) ∧ ci sc' * P = lv quo' * lv q.coefs + lv rest' := by
  have hl := lead_ne hq h0
  have ql := hq.len
  generalize hlead : co q.coefs (q.coefs.length - 1) = lead at hl ⊢
  have sl : Sm lead c := by rw [← hlead]; exact hq.c _
  have et : gt rest (((j : Int) + (q.coefs.length : Int)) - 1) = co rest (j + q.coefs.length - 1) := by
    rw [show ((j : Int) + (q.coefs.length : Int)) - 1 = ((j + q.coefs.length - 1 : Nat) : Int) by omega, gt_co]
  have it : inR rest (((j : Int) + (q.coefs.length : Int)) - 1) := by unfold inR; omega
  generalize htop : co rest (j + q.coefs.length - 1) = top at et
  have st : Sm top B := by rw [← htop]; exact r1 _
  have cr : ∀ k, co (rest.map fun (x4 : Int) => (lead * x4)) k = lead * co rest k := fun k => co_map (fun x => lead * x) (by simp) _ k
  have cq : ∀ k, co (quo.map fun (x6 : Int) => (lead * x6)) k = lead * co quo k := fun k => co_map (fun x => lead * x) (by simp) _ k
  have inner := forV_inv0 (V := fun (s8 : (List Int)) (x9 : Int) => v_divide_11 p q (q.coefs.length : Int) lead s8 (quo.map fun (x6 : Int) => (lead * x6)) sc (j : Int) top x9) (f := fun (s8 : (List Int)) (x9 : Int) => q_divide_11 p q (q.coefs.length : Int) lead s8 (quo.map fun (x6 : Int) => (lead * x6)) sc (j : Int) top x9) (xs := rngT 0 (q.coefs.length : Int)) (s := rest.map fun (x4 : Int) => (lead * x4))
    (fun i r => (rest.map fun (x4 : Int) => (lead * x4)).length = r.length ∧ ∀ k, co r k = co (rest.map fun (x4 : Int) => (lead * x4)) k + (if j ≤ k ∧ k < j + i then (-top) * co q.coefs (k - j) else 0)) ⟨rfl, fun k => by rw [if_neg (by omega)]; omega⟩ fun i x r hx ⟨h1, h2⟩ => by
      obtain ⟨hi, e⟩ := rngT0_get hx
      subst e
      have h1' := h1
      rw [List.length_map] at h1'
      obtain ⟨t1, t2⟩ := row_step h1 h2 (by omega : j + i < r.length)
      have iR : inR r ((j : Int) + (i : Int)) := by unfold inR; omega
      have k2 : gt q.coefs (i : Int) = co q.coefs i := gt_co _ _
      have e : q_divide_11 p q (q.coefs.length : Int) lead r (quo.map fun (x6 : Int) => (lead * x6)) sc (j : Int) top (i : Int) = setT r ((j : Int) + (i : Int)) (gt r ((j : Int) + (i : Int)) + (-top) * co q.coefs i) := by
        unfold q_divide_11; rw [k2]; congr 1; rw [Int.neg_mul]; omega
      refine ⟨⟨iR, inR_nat hi, by rw [k2]; exact mulOk_sm st (hq.c i) (by omega), iR⟩, ?_⟩
      show _ = (q_divide_11 p q (q.coefs.length : Int) lead r (quo.map fun (x6 : Int) => (lead * x6)) sc (j : Int) top (i : Int)).length ∧ ∀ k, co (q_divide_11 p q (q.coefs.length : Int) lead r (quo.map fun (x6 : Int) => (lead * x6)) sc (j : Int) top (i : Int)) k = _
      rw [e]
      exact ⟨h1.trans t1.symm, t2⟩
  rw [rngT0_length] at inner
  obtain ⟨vi, i1, i2⟩ := inner
  generalize hR : (rngT 0 (q.coefs.length : Int)).foldl (fun (s8 : (List Int)) (x9 : Int) => q_divide_11 p q (q.coefs.length : Int) lead s8 (quo.map fun (x6 : Int) => (lead * x6)) sc (j : Int) top x9) (rest.map fun (x4 : Int) => (lead * x4)) = R at i1 i2
  rw [List.length_map] at i1
  have i3 : ∀ k, co R k = lead * co rest k + (if j ≤ k then (-top) * co q.coefs (k - j) else 0) := fun k => by
    rw [i2 k, cr]; exact row_end k
  have lR : lv R = ci lead * lv rest + ci (-top) * (Ps.Xp j * lv q.coefs) := Ps.ext fun k => by
    rw [Ps.add_cf, Ps.c_mul, Ps.c_mul, Ps.Xp_mul, lv_cf, lv_cf, i3 k, Rat.intCast_add, Rat.intCast_mul]
    by_cases h : j ≤ k
    · rw [if_pos h, if_pos h, Rat.intCast_mul, lv_cf]
    · rw [if_neg h, if_neg h, show ((0 : Int) : Rat) = 0 from rfl]; grind
  have gq : gt (quo.map fun (x6 : Int) => (lead * x6)) (j : Int) = co (quo.map fun (x6 : Int) => (lead * x6)) j := gt_co _ _
  have ij : inR (quo.map fun (x6 : Int) => (lead * x6)) (j : Int) := inR_nat (by rw [List.length_map]; omega)
  have eS : setT (quo.map fun (x6 : Int) => (lead * x6)) (j : Int) (gt (quo.map fun (x6 : Int) => (lead * x6)) (j : Int) + top) = (quo.map fun (x6 : Int) => (lead * x6)).set j (co (quo.map fun (x6 : Int) => (lead * x6)) j + top) := by
    rw [gq, setT_nat (by rw [List.length_map]; omega)]
  have eQ : q_divide_7 p q (q.coefs.length : Int) lead rest quo sc (j : Int) = (R, (quo.map fun (x6 : Int) => (lead * x6)).set j (co (quo.map fun (x6 : Int) => (lead * x6)) j + top), sc * lead) := by
    unfold q_divide_7
    rw [et]
    show ((rngT 0 (q.coefs.length : Int)).foldl (fun (s8 : (List Int)) (x9 : Int) => q_divide_11 p q (q.coefs.length : Int) lead s8 (quo.map fun (x6 : Int) => (lead * x6)) sc (j : Int) top x9) (rest.map fun (x4 : Int) => (lead * x4)), setT (quo.map fun (x6 : Int) => (lead * x6)) (j : Int) (gt (quo.map fun (x6 : Int) => (lead * x6)) (j : Int) + top), sc * lead) = _
    rw [hR, eS]
  refine ⟨?_, R, _, _, eQ, by omega, by rw [List.length_set, List.length_map, hs], fun k => ?_, fun k => ?_, s1.mulUp sl (Nat.le_refl _), Int.mul_ne_zero s0 hl, fun k hk => ?_, ?_⟩
  · refine ⟨it, ?_⟩
    rw [et]
    refine ⟨fun x hx => mulOk_sm sl ((⟨Nat.le_refl _, r1⟩ : LS rest rest.length B).mem hx) (by omega), line_le (by omega), fun x hx => mulOk_sm sl ((⟨Nat.le_refl _, q1⟩ : LS quo quo.length B).mem hx) (by omega), line_le (by omega), rOk_nat (by omega), vi, ij, ij, mulOk_sm s1 sl (by omega)⟩
  · rw [i3 k]
    refine (sl.mulUp (r1 k) (Nat.le_refl _)).addUp2 (b := c + B) ?_ (by omega) (by omega)
    split
    · exact st.negUp.mulUp (hq.c _) (by omega)
    · exact Sm.zero (by have := st.pos; omega)
  · rw [co_set (by rw [List.length_map]; omega)]
    split
    · rw [cq]
      exact (sl.mulUp (q1 j) (Nat.le_refl _)).addUp2 st (by omega) (by have := sl.pos; omega)
    · rw [cq]
      exact sl.mulUp (q1 k) (by omega)
  · rw [i3 k, if_pos (by omega)]
    by_cases e : k = j + q.coefs.length - 1
    · rw [e, htop, show j + q.coefs.length - 1 - j = q.coefs.length - 1 by omega, hlead]
      rw [Int.neg_mul, Int.mul_comm]; omega
    · rw [hz k (by omega), co_ge (xs := q.coefs) (by omega)]; omega
  · rw [lR, lv_set (by rw [List.length_map]; omega), lv_map, ci_mul, ci_neg]
    have : ci sc * ci lead * P = ci lead * (ci sc * P) := by grind
    rw [this, id]; grind
end
end Pd
set_option maxHeartbeats 2000000
namespace Pd
open PySem PySem.Spec L2
section
variable {p : Po} {n b c : Nat} {s : Int}
end
end Pd
set_option maxHeartbeats 2000000
namespace Pd
open PySem PySem.Spec L2
def St (f : Nat → Int) : Prop := (0 < f 0 ∧ ∀ k, 0 ≤ f k) ∨ (f 0 < 0 ∧ ∀ k, f k ≤ 0)
theorem sgn {a b d e : Int} (h : a * d = b * e) (hd : 0 < d) (he : 0 < e) : (0 < a ↔ 0 < b) ∧ (a < 0 ↔ b < 0) := by
  have key : ∀ {a b d e : Int}, a * d = b * e → 0 < d → 0 < e → 0 < a → 0 < b := fun {a b d e} h hd he ha => by
    have h1 : 0 < b * e := by rw [← h]; exact Int.mul_pos ha hd
    rcases Int.lt_trichotomy b 0 with z | z | z
    · have := Int.mul_neg_of_neg_of_pos z he; omega
    · rw [z, Int.zero_mul] at h1; omega
    · exact z
  refine ⟨⟨key h hd he, key h.symm he hd⟩, ⟨fun ha => ?_, fun hb => ?_⟩⟩
  · have := key (a := -a) (b := -b) (by rw [Int.neg_mul, Int.neg_mul, h]) hd he (by omega); omega
  · have := key (a := -b) (b := -a) (by rw [Int.neg_mul, Int.neg_mul, h]) he hd (by omega); omega
theorem St.scale {f g : Nat → Int} {d e : Int} (h : ∀ k, f k * d = g k * e) (hd : 0 < d) (he : 0 < e) : St f ↔ St g := by
  have key : ∀ {f g : Nat → Int} {d e : Int}, (∀ k, f k * d = g k * e) → 0 < d → 0 < e → St f → St g := fun {f g d e} h hd he s => by
    rcases s with ⟨h0, h1⟩ | ⟨h0, h1⟩
    · refine .inl ⟨(sgn (h 0) hd he).1.mp h0, fun k => ?_⟩
      have := h1 k
      have := (sgn (h k) hd he).2
      omega
    · refine .inr ⟨(sgn (h 0) hd he).2.mp h0, fun k => ?_⟩
      have := h1 k
      have := (sgn (h k) hd he).1
      omega
  exact ⟨key h hd he, key (fun k => (h k).symm) he hd⟩
def absS : List Int → Nat
  | [] => 0
  | a :: as => a.natAbs + absS as
theorem shc_big {h : Int} : ∀ (xs : List Int), xs ≠ [] → 0 < co xs (xs.length - 1) → (absS xs : Int) < h → ∀ k, k < xs.length → 1 ≤ shc h xs k
  | [], z, _, _, _, _ => absurd rfl z
  | [a], _, hl, hh, k, hk => by
    have hk0 : k = 0 := by simp at hk; omega
    subst hk0
    have : 0 < a := hl
    show 1 ≤ a + h * 0
    omega
  | a :: b :: ys, _, hl, hh, k, hk => by
    have hh' : ((absS (b :: ys) : Nat) : Int) < h := by
      have : absS (a :: b :: ys) = a.natAbs + absS (b :: ys) := rfl
      omega
    have ha : (a.natAbs : Int) < h := by
      have : absS (a :: b :: ys) = a.natAbs + absS (b :: ys) := rfl
      omega
    have ih := shc_big (b :: ys) (by simp) hl hh'
    have h1 : 1 ≤ h := by omega
    cases k with
    | zero =>
      show 1 ≤ a + h * shc h (b :: ys) 0
      have := ih 0 (by simp)
      have m : h * 1 ≤ h * shc h (b :: ys) 0 := Int.mul_le_mul_of_nonneg_left this (by omega)
      omega
    | succ k =>
      show 1 ≤ shc h (b :: ys) k + h * shc h (b :: ys) (k + 1)
      have h2 := ih k (by simpa using hk)
      by_cases hk2 : k + 1 < (b :: ys).length
      · have := ih (k + 1) hk2
        have m : 0 ≤ h * shc h (b :: ys) (k + 1) := Int.mul_nonneg (by omega) (by omega)
        omega
      · rw [shc_ge h (b :: ys) (k + 1) (by omega)]; omega
theorem absS_neg : ∀ xs : List Int, absS (xs.map fun x => -x) = absS xs
  | [] => rfl
  | a :: as => by
    show (-a).natAbs + absS (as.map fun x => -x) = _
    rw [absS_neg as, Int.natAbs_neg]; rfl
theorem absS_lt {b : Nat} : ∀ {xs : List Int}, (∀ k, Sm (co xs k) b) → absS xs < 2 ^ (b + xs.length)
  | [], h => Nat.two_pow_pos _
  | a :: as, h => by
    have ih := absS_lt (xs := as) fun k => h (k + 1)
    have h0 : a.natAbs < 2 ^ b := (h 0).lt
    have e : 2 ^ (b + (a :: as).length) = 2 ^ (b + as.length) + 2 ^ (b + as.length) := by
      rw [List.length_cons, ← Nat.add_assoc, Nat.pow_succ]; omega
    have m : 2 ^ b ≤ 2 ^ (b + as.length) := Nat.pow_le_pow_right (by decide) (by omega)
    rw [e]
    show a.natAbs + absS as < _
    omega
theorem St.big {xs : List Int} {h : Int} (hl : xs ≠ []) (hz : co xs (xs.length - 1) ≠ 0) (hh : (absS xs : Int) < h) : St (shc h xs) := by
  have lp : 0 < xs.length := List.length_pos_iff.mpr hl
  rcases Int.lt_or_gt_of_ne hz with z | z
  · have e : ∀ k, shc h xs k = -shc h (xs.map fun x => -x) k := fun k => by
      have := shc_lin h xs (xs.map fun x => -x) 1 (-1) (fun k => by rw [co_map (fun x => -x) (by simp)]; omega) k
      omega
    have hb := shc_big (h := h) (xs.map fun x => -x) (by simpa using hl) (by rw [List.length_map, co_map (fun x => -x) (by simp)]; omega) (by rw [absS_neg]; exact hh)
    rw [List.length_map] at hb
    refine .inr ⟨by rw [e]; have := hb 0 lp; omega, fun k => ?_⟩
    by_cases hk : k < xs.length
    · rw [e]; have := hb k hk; omega
    · rw [shc_ge h xs k (by omega)]; omega
  · have hb := shc_big xs hl z hh
    refine .inl ⟨by have := hb 0 lp; omega, fun k => ?_⟩
    by_cases hk : k < xs.length
    · have := hb k hk; omega
    · rw [shc_ge h xs k (by omega)]; omega
end Pd
set_option maxHeartbeats 2000000
namespace Pd
open PySem PySem.Spec L2
end Pd
set_option maxHeartbeats 2000000
namespace Pd
open PySem PySem.Spec L2
theorem poly_eq {p q : Po} {n b m c : Nat} (hp : PoS p n b) (hq : PoS q m c) : q_Poly_eq p q = true ↔ pv p = pv q := by
  show (true && (decide (p.coefs = q.coefs) && decide (p.den = q.den))) = true ↔ _
  rw [Bool.true_and, Bool.and_eq_true, decide_eq_true_iff, decide_eq_true_iff]
  constructor
  · rintro ⟨h1, h2⟩
    obtain ⟨c1, d1⟩ := p
    obtain ⟨c2, d2⟩ := q
    dsimp only at h1 h2
    subst h1; subst h2; rfl
  · intro h
    have := pv_inj hp hq fun k => by rw [h]
    subst this
    exact ⟨rfl, rfl⟩
section
variable {p : Po} {n b : Nat}
theorem lead_spec (hp : PoS p n b) : v_Poly_lead p ∧ FrS (q_Poly_lead p) b ∧ fv (q_Poly_lead p) = (pv p).cf (p.coefs.length - 1) := by
  by_cases h0 : p.coefs.length = 0
  · obtain ⟨v, s, e⟩ := frac_mk (n := 0) (d := 1) (b := b) (by decide) (Sm.zero (hp.c 0).pos) ⟨by have := (hp.c 0).pos; show 1 < 2 ^ b; exact Nat.one_lt_two_pow (by omega), (hp.c 0).pos⟩
    have hd : decide ((p.coefs.length : Int) = 0) = true := decide_eq_true (by omega)
    refine ⟨⟨fun _ => v, fun z => (by rw [hd] at z; cases z)⟩, ?_, ?_⟩
    · show FrS (if decide ((p.coefs.length : Int) = 0) = true then q_Fraction_init 0 1 else q_Poly_lead_2 p) b
      rw [if_pos hd]; exact s
    · show fv (if decide ((p.coefs.length : Int) = 0) = true then q_Fraction_init 0 1 else q_Poly_lead_2 p) = (co p.coefs _ : Rat) / p.den
      rw [if_pos hd, e, co_ge (by omega), show ((0 : Int) : Rat) = 0 from rfl]; grind
  · have hd : decide ((p.coefs.length : Int) = 0) = false := decide_eq_false (by omega)
    have hg : gt p.coefs (-(1 : Int)) = co p.coefs (p.coefs.length - 1) := by
      rw [show (-(1 : Int)) = -1 from rfl, gt_neg (by omega)]
      have := co_lt (xs := p.coefs) (k := p.coefs.length - 1) (by omega)
      rw [List.getElem?_eq_getElem (by omega)] at this
      exact Option.some.inj this
    obtain ⟨v, s, e⟩ := frac_mk (n := co p.coefs (p.coefs.length - 1)) (d := p.den) (b := b) hp.ne' (hp.c _) hp.d
    refine ⟨⟨fun z => (by rw [hd] at z; cases z), fun _ => ⟨inR_neg (by omega), by rw [hg]; exact v⟩⟩, ?_, ?_⟩
    · show FrS (if decide ((p.coefs.length : Int) = 0) = true then q_Poly_lead_1 else q_Fraction_init (gt p.coefs (-(1 : Int))) p.den) b
      rw [if_neg (by rw [hd]; decide), hg]; exact s
    · show fv (if decide ((p.coefs.length : Int) = 0) = true then q_Poly_lead_1 else q_Fraction_init (gt p.coefs (-(1 : Int))) p.den) = (co p.coefs _ : Rat) / p.den
      rw [if_neg (by rw [hd]; decide), hg, e]
end
def fc (row : List Fr) (k : Nat) : Rat := match row[k]? with
  | some x => fv x
  | none => 0
end Pd
set_option maxHeartbeats 2000000
namespace Pd
open PySem PySem.Spec L2
theorem hz_shc (x : Int) : ∀ xs : List Int, shc x xs 0 = hz x xs
  | [] => rfl
  | a :: as => by
    show a + x * shc x as 0 = a + x * hz x as
    rw [hz_shc x as]
def mkL (n : Nat) (f : Nat → Int) : List Int := (List.range n).map f
theorem mkL_len (n : Nat) (f : Nat → Int) : (mkL n f).length = n := by simp [mkL]
theorem mkL_co {n : Nat} {f : Nat → Int} (h : ∀ k, n ≤ k → f k = 0) (k : Nat) : co (mkL n f) k = f k := by
  by_cases hk : k < n
  · have := co_lt (xs := mkL n f) (k := k) (by rw [mkL_len]; exact hk)
    unfold mkL at this
    rw [List.getElem?_map, List.getElem?_range hk] at this
    exact (Option.some.inj this).symm
  · rw [co_ge (by rw [mkL_len]; omega), h k (by omega)]
def Rt (p : Po) (r : Int) : Prop := shc r p.coefs 0 = 0
theorem rt_hz {p : Po} {r : Int} : Rt p r ↔ hz r p.coefs = 0 := by unfold Rt; rw [hz_shc]
section
variable {p : Po} {n b c : Nat}
end
end Pd
set_option maxHeartbeats 2000000
namespace Pd
open PySem PySem.Spec L2
structure RtsIn (P : Int → Prop) (lo hi : Int) (xs : List Int) : Prop where
  pw : xs.Pairwise (· < ·)
  mem : ∀ r, r ∈ xs ↔ (lo ≤ r ∧ r ≤ hi ∧ P r)
theorem up_len : ∀ {xs : List Int} {lo hi : Int}, xs.Pairwise (· < ·) → (∀ x ∈ xs, lo ≤ x ∧ x ≤ hi) → lo ≤ hi + 1 → (xs.length : Int) ≤ hi + 1 - lo
  | [], lo, hi, _, _, h => by simp; omega
  | x :: xs, lo, hi, p, m, h => by
    have p' := List.pairwise_cons.mp p
    have hx := m x List.mem_cons_self
    have := up_len (xs := xs) (lo := x + 1) (hi := hi) p'.2 (fun y hy => ⟨by have := p'.1 y hy; omega, (m y (List.mem_cons_of_mem _ hy)).2⟩) (by omega)
    rw [List.length_cons]; omega
theorem RtsIn.uniq {P : Int → Prop} {lo hi : Int} {xs ys : List Int} (h : RtsIn P lo hi xs) (k : RtsIn P lo hi ys) : xs = ys := by
  have nd : ∀ {zs : List Int}, zs.Pairwise (· < ·) → zs.Nodup := fun h => h.imp fun q => Int.ne_of_lt q
  have pm : xs.Perm ys := (List.perm_ext_iff_of_nodup (nd h.pw) (nd k.pw)).mpr fun r => (h.mem r).trans (k.mem r).symm
  exact List.Perm.eq_of_pairwise (le := (· < ·)) (fun a b _ _ h1 h2 => by omega) h.pw k.pw pm
theorem RtsIn.len {P : Int → Prop} {lo hi : Int} {xs : List Int} (h : RtsIn P lo hi xs) (hl : lo ≤ hi + 1) : (xs.length : Int) ≤ hi + 1 - lo := up_len h.pw (fun x hx => ⟨((h.mem x).mp hx).1, ((h.mem x).mp hx).2.1⟩) hl
def Cov (P : Int → Prop) (hi : Int) : Int → List (Int × Int) → Prop
  | c, [] => ∀ x, c ≤ x → x ≤ hi → ¬ P x
  | c, (l, r) :: rest => c ≤ l ∧ l ≤ r ∧ r ≤ hi ∧ (∀ x, c ≤ x → x < l → ¬ P x) ∧ Cov P hi (r + 1) rest
theorem Cov.len {P : Int → Prop} {hi : Int} : ∀ {c : Int} {L : List (Int × Int)}, Cov P hi c L → c ≤ hi + 1 → (L.length : Int) ≤ hi + 1 - c
  | c, [], _, h => by simp; omega
  | c, (l, r) :: rest, ⟨h1, h2, h3, _, h5⟩, h => by
    have := Cov.len h5 (by omega)
    rw [List.length_cons]; omega
section
variable {p : Po} {n b c : Nat}
end
end Pd
set_option maxHeartbeats 2000000
namespace Pd
open PySem PySem.Spec L2
theorem hz_prod {xs ys zs : List Int} (h : lv zs = lv xs * lv ys) (x : Int) : hz x zs = hz x xs * hz x ys := by
  apply ic_eq
  rw [Rat.intCast_mul, ← hz_ev x xs, ← hz_ev x ys, ← hz_ev x zs]
  have e1 := Ps.ev_up (n := zs.length) (m := zs.length + (xs.length + ys.length)) (x : Rat) (lv_Bd (Nat.le_refl _)) (by omega)
  have e2 := Ps.ev_mul (n := xs.length) (m := ys.length) (l := zs.length + (xs.length + ys.length)) (f := lv xs) (g := lv ys) (x : Rat) (lv_Bd (Nat.le_refl _)) (lv_Bd (Nat.le_refl _)) (by omega)
  rw [← e1, h, e2]
end Pd
set_option maxHeartbeats 2000000
namespace Pd
open PySem PySem.Spec L2
end Pd
set_option maxHeartbeats 2000000
namespace Pd
open PySem PySem.Spec L2
def Pl (f : Ps Rat) : Prop := ∃ n, Ps.Bd n f
theorem Pl.zero : Pl 0 := ⟨0, Ps.Bd.zero⟩
theorem Pl.c (r : Rat) : Pl (Ps.c r) := ⟨1, Ps.Bd.c r⟩
theorem Pl.one : Pl 1 := Pl.c 1
theorem Pl.add {f g : Ps Rat} : Pl f → Pl g → Pl (f + g) := fun ⟨n, h⟩ ⟨m, k⟩ => ⟨max n m, (h.up (by omega)).add (k.up (by omega))⟩
theorem Pl.sub {f g : Ps Rat} : Pl f → Pl g → Pl (f - g) := fun ⟨n, h⟩ ⟨m, k⟩ => ⟨max n m, (h.up (by omega)).sub (k.up (by omega))⟩
theorem Pl.neg {f : Ps Rat} : Pl f → Pl (-f) := fun ⟨n, h⟩ => ⟨n, h.neg⟩
theorem Pl.mul {f g : Ps Rat} : Pl f → Pl g → Pl (f * g) := fun ⟨n, h⟩ ⟨m, k⟩ => ⟨_, h.mul k⟩
theorem Pl.lv (xs : List Int) : Pl (Pd.lv xs) := ⟨xs.length, lv_Bd (Nat.le_refl _)⟩
theorem PoS.pl {p : Po} {n b : Nat} (h : PoS p n b) : Pl (pv p) := ⟨n, pv_Bd h⟩
def Dg (n : Nat) (f : Ps Rat) : Prop := Ps.Bd (n + 1) f ∧ f.cf n ≠ 0
theorem Dg.pl {n : Nat} {f : Ps Rat} (h : Dg n f) : Pl f := ⟨n + 1, h.1⟩
theorem Dg.ne {n : Nat} {f : Ps Rat} (h : Dg n f) : f ≠ 0 := fun z => h.2 (by rw [z, Ps.zero_cf])
theorem dg_ex : ∀ {n : Nat} {f : Ps Rat}, Ps.Bd n f → f ≠ 0 → ∃ m, Dg m f
  | 0, f, h, hf => absurd h.nil hf
  | n + 1, f, h, hf => by
    by_cases z : f.cf n = 0
    · refine dg_ex (n := n) (fun k hk => ?_) hf
      by_cases e : k = n
      · rw [e, z]
      · exact h k (by omega)
    · exact ⟨n, h, z⟩
theorem Pl.dg {f : Ps Rat} (h : Pl f) (hf : f ≠ 0) : ∃ m, Dg m f := by
  obtain ⟨n, h⟩ := h
  exact dg_ex h hf
theorem Dg.uniq {n m : Nat} {f : Ps Rat} (h : Dg n f) (k : Dg m f) : n = m := by
  rcases Nat.lt_trichotomy n m with l | l | l
  · exact absurd (h.1 m (by omega)) k.2
  · exact l
  · exact absurd (k.1 n (by omega)) h.2
theorem Dg.mul {n m : Nat} {f g : Ps Rat} (h : Dg n f) (k : Dg m g) : Dg (n + m) (f * g) := ⟨by
  have := h.1.mul k.1
  exact this.up (by omega), by
  rw [Ps.mul_top h.1 k.1]
  intro z
  rcases (Rat.mul_eq_zero.mp z) with z | z
  · exact h.2 z
  · exact k.2 z⟩
theorem mul_ne {f g : Ps Rat} (hf : Pl f) (hg : Pl g) (h : f ≠ 0) (k : g ≠ 0) : f * g ≠ 0 := by
  obtain ⟨n, a⟩ := hf.dg h
  obtain ⟨m, b⟩ := hg.dg k
  exact (a.mul b).ne
theorem mul_can {f g h : Ps Rat} (hf : Pl f) (hg : Pl g) (hh : Pl h) (h0 : f ≠ 0) (e : f * g = f * h) : g = h := by
  have e2 : f * (g - h) = 0 := by grind
  by_cases z : g - h = 0
  · have : g = h + (g - h) := by grind
    rw [this, z]; grind
  · exact absurd e2 (mul_ne hf (hg.sub hh) h0 z)
def Dv (f g : Ps Rat) : Prop := ∃ h, Pl h ∧ g = f * h
theorem Dv.refl (f : Ps Rat) : Dv f f := ⟨1, Pl.one, by grind⟩
theorem Dv.zero (f : Ps Rat) : Dv f 0 := ⟨0, Pl.zero, by grind⟩
theorem Dv.trans {f g h : Ps Rat} : Dv f g → Dv g h → Dv f h := fun ⟨a, p, e⟩ ⟨b, q, e2⟩ => ⟨a * b, p.mul q, by rw [e2, e]; grind⟩
theorem Dv.add {f g h : Ps Rat} : Dv f g → Dv f h → Dv f (g + h) := fun ⟨a, p, e⟩ ⟨b, q, e2⟩ => ⟨a + b, p.add q, by rw [e2, e]; grind⟩
theorem Dv.mulr {f g h : Ps Rat} (hh : Pl h) : Dv f g → Dv f (h * g) := fun ⟨a, p, e⟩ => ⟨h * a, hh.mul p, by rw [e]; grind⟩
theorem Dv.deg {f g : Ps Rat} {n m : Nat} (h : Dv f g) (hf : Dg n f) (hg : Dg m g) : n ≤ m := by
  obtain ⟨a, p, e⟩ := h
  have ha : a ≠ 0 := fun z => hg.ne (by rw [e, z]; grind)
  obtain ⟨k, ka⟩ := p.dg ha
  have := (hf.mul ka).uniq (m := m) (by rw [← e]; exact hg)
  omega
structure Gcd (g p q : Ps Rat) : Prop where
  l : Dv g p
  r : Dv g q
  bz : ∃ u v, Pl u ∧ Pl v ∧ g = u * p + v * q
theorem Gcd.gr {g p q d : Ps Rat} (h : Gcd g p q) (a : Dv d p) (b : Dv d q) : Dv d g := by
  obtain ⟨u, v, hu, hv, e⟩ := h.bz
  rw [e]
  exact (a.mulr hu).add (b.mulr hv)
theorem Gcd.pl {g p q : Ps Rat} (h : Gcd g p q) (hp : Pl p) (hq : Pl q) : Pl g := by
  obtain ⟨u, v, hu, hv, e⟩ := h.bz
  rw [e]
  exact (hu.mul hp).add (hv.mul hq)
theorem Gcd.zero (p : Ps Rat) : Gcd p p 0 := ⟨Dv.refl p, Dv.zero p, 1, 0, Pl.one, Pl.zero, by grind⟩
theorem Gcd.symm {g p q : Ps Rat} (h : Gcd g p q) : Gcd g q p := ⟨h.r, h.l, by
  obtain ⟨u, v, hu, hv, e⟩ := h.bz
  exact ⟨v, u, hv, hu, by rw [e]; grind⟩⟩
theorem cc {r : Rat} (h : r ≠ 0) : Ps.c r * Ps.c r⁻¹ = 1 := by
  rw [← Ps.c_mulc, Rat.mul_inv_cancel r h]; rfl
theorem Gcd.cl {g p q : Ps Rat} {r : Rat} (hr : r ≠ 0) (h : Gcd g (Ps.c r * p) q) : Gcd g p q := by
  have k := cc hr
  refine ⟨?_, h.r, ?_⟩
  · obtain ⟨a, pa, e⟩ := h.l
    refine ⟨Ps.c r⁻¹ * a, (Pl.c _).mul pa, ?_⟩
    have : p = Ps.c r⁻¹ * (Ps.c r * p) := by grind
    rw [this, e]; grind
  · obtain ⟨u, v, hu, hv, e⟩ := h.bz
    exact ⟨u * Ps.c r, v, hu.mul (Pl.c _), hv, by rw [e]; grind⟩
theorem Gcd.cr {g p q : Ps Rat} {r : Rat} (hr : r ≠ 0) (h : Gcd g p (Ps.c r * q)) : Gcd g p q := (Gcd.cl hr h.symm).symm
theorem Gcd.cg {g p q : Ps Rat} {r : Rat} (hr : r ≠ 0) (h : Gcd g p q) : Gcd (Ps.c r * g) p q := by
  have k := cc hr
  have dv : ∀ {x}, Dv g x → Dv (Ps.c r * g) x := fun {x} ⟨a, pa, e⟩ => ⟨Ps.c r⁻¹ * a, (Pl.c _).mul pa, by rw [e]; grind⟩
  refine ⟨dv h.l, dv h.r, ?_⟩
  obtain ⟨u, v, hu, hv, e⟩ := h.bz
  exact ⟨Ps.c r * u, Ps.c r * v, (Pl.c _).mul hu, (Pl.c _).mul hv, by rw [e]; grind⟩
theorem Gcd.step {g p q Q R : Ps Rat} {r : Rat} (hr : r ≠ 0) (hQ : Pl Q) (e : Ps.c r * p = Q * q + R) (h : Gcd g q R) : Gcd g p q := by
  refine Gcd.cl hr ⟨?_, h.l, ?_⟩
  · rw [e]
    exact (h.l.mulr hQ).add h.r
  · obtain ⟨u, v, hu, hv, k⟩ := h.bz
    exact ⟨v, u - v * Q, hv, hu.sub (hv.mul hQ), by rw [e, k]; grind⟩
theorem Gcd.deg {g g' p q : Ps Rat} {n m : Nat} (h : Gcd g p q) (k : Gcd g' p q) (a : Dg n g) (b : Dg m g') : n = m := by
  have h1 := (k.gr h.l h.r).deg a b
  have h2 := (h.gr k.l k.r).deg b a
  omega
theorem Gcd.nz {g p q : Ps Rat} (h : Gcd g p q) (hp : p ≠ 0) : g ≠ 0 := fun z => by
  obtain ⟨a, pa, e⟩ := h.l
  exact hp (by rw [e, z]; grind)
theorem dg0 {f : Ps Rat} (h : Dg 0 f) : f = Ps.c (f.cf 0) := Ps.ext fun k => by
  rw [Ps.c_cf]
  by_cases e : k = 0
  · rw [if_pos e, e]
  · rw [if_neg e]; exact h.1 k (by omega)
theorem Gcd.cop {g p q p' q' : Ps Rat} (h : Gcd g p q) (hg : Pl g) (h0 : g ≠ 0) (hp : Pl p') (hq : Pl q') (e : p = g * p') (k : q = g * q') : Gcd 1 p' q' := by
  refine ⟨⟨p', hp, by grind⟩, ⟨q', hq, by grind⟩, ?_⟩
  obtain ⟨u, v, hu, hv, z⟩ := h.bz
  refine ⟨u, v, hu, hv, mul_can hg Pl.one ((hu.mul hp).add (hv.mul hq)) h0 ?_⟩
  have : g * (u * p' + v * q') = u * (g * p') + v * (g * q') := by grind
  rw [this, ← e, ← k, ← z]; grind
theorem Gcd.dvd {p q f : Ps Rat} (h : Gcd 1 p q) (k : Dv p (q * f)) (hf : Pl f) : Dv p f := by
  obtain ⟨u, v, hu, hv, z⟩ := h.bz
  obtain ⟨a, pa, e⟩ := k
  refine ⟨u * f + v * a, (hu.mul hf).add (hv.mul pa), ?_⟩
  have h1 : f = 1 * f := by grind
  have h2 : f = (u * p + v * q) * f := by rw [← z]; exact h1
  have h3 : (u * p + v * q) * f = u * p * f + v * (q * f) := by grind
  rw [e] at h3
  calc f = (u * p + v * q) * f := h2
    _ = u * p * f + v * (p * a) := h3
    _ = p * (u * f + v * a) := by grind
theorem low_uniq {a b c d : Ps Rat} {n m : Nat} (h1 : Gcd 1 a b) (h2 : Gcd 1 c d) (pa : Pl a) (pc : Pl c) (hb : Dg n b) (hd : Dg m d) (mb : b.cf n = 1) (md : d.cf m = 1) (e : a * d = c * b) : a = c ∧ b = d := by
  have d1 : Dv b d := h1.symm.dvd ⟨c, pc, by rw [e]; grind⟩ hd.pl
  have d2 : Dv d b := h2.symm.dvd ⟨a, pa, by rw [← e]; grind⟩ hb.pl
  have l1 := d1.deg hb hd
  have l2 := d2.deg hd hb
  have : n = m := by omega
  subst this
  obtain ⟨k, pk, ek⟩ := d1
  have kn : k ≠ 0 := fun z => hd.ne (by rw [ek, z]; grind)
  obtain ⟨j, hj⟩ := pk.dg kn
  have hj0 : j = 0 := by
    have := (hb.mul hj).uniq (m := n) (by rw [← ek]; exact hd)
    omega
  subst hj0
  have t : (b * k).cf (n + 0) = b.cf n * k.cf 0 := Ps.mul_top hb.1 hj.1
  rw [← ek, Nat.add_zero, md, mb] at t
  have hk := dg0 hj
  have hk1 : k.cf 0 = 1 := by grind
  rw [hk1] at hk
  have ek2 : d = b := by rw [ek, hk]; show b * 1 = b; grind
  refine ⟨?_, ek2.symm⟩
  rw [ek2] at e
  exact mul_can hb.pl pa pc hb.ne (by rw [Ps.mul_comm' b a, e]; grind)
end Pd
set_option maxHeartbeats 2000000
namespace Pd
open PySem PySem.Spec L2
def Prm (p : Nat) : Prop := 1 < p ∧ ∀ d, d ∣ p → d = 1 ∨ d = p
theorem prm_ex : ∀ (n : Nat), 1 < n → ∃ p, Prm p ∧ p ∣ n := by
  intro n
  induction n using Nat.strongRecOn with
  | ind n ih =>
    intro h
    by_cases hp : Prm n
    · exact ⟨n, hp, Nat.dvd_refl n⟩
    · have : ∃ d, d ∣ n ∧ d ≠ 1 ∧ d ≠ n := Classical.byContradiction fun z => hp ⟨h, fun d hd => by
        by_cases a : d = 1
        · exact .inl a
        · by_cases b : d = n
          · exact .inr b
          · exact absurd ⟨d, hd, a, b⟩ z⟩
      obtain ⟨d, hd, h1, h2⟩ := this
      have dl := Nat.le_of_dvd (by omega) hd
      have d0 : d ≠ 0 := fun z => by rw [z] at hd; have := Nat.eq_zero_of_zero_dvd hd; omega
      obtain ⟨p, hp, hd2⟩ := ih d (by omega) (by omega)
      exact ⟨p, hp, Nat.dvd_trans hd2 hd⟩
theorem Prm.dvd {p : Nat} (hp : Prm p) {a b : Int} (h : (p : Int) ∣ a * b) : (p : Int) ∣ a ∨ (p : Int) ∣ b := by
  rw [Int.ofNat_dvd_left, Int.natAbs_mul] at h
  rw [Int.ofNat_dvd_left, Int.ofNat_dvd_left]
  rcases hp.2 _ (Nat.gcd_dvd_left p a.natAbs) with g | g
  · exact .inr (Nat.Coprime.dvd_of_dvd_mul_left g h)
  · have := Nat.gcd_dvd_right p a.natAbs
    rw [g] at this
    exact .inl this
theorem dvd_back {p a b : Int} (h : p ∣ a + b) (k : p ∣ a) : p ∣ b := by
  have e : b = (a + b) - a := by omega
  rw [e]; exact Int.dvd_sub h k
theorem gauss {p : Nat} (hp : Prm p) : ∀ (N n m : Nat) (f g : Ps Int), n + m ≤ N → Ps.Bd n f → Ps.Bd m g → (∀ k, (p : Int) ∣ (f * g).cf k) → (∀ k, (p : Int) ∣ f.cf k) ∨ (∀ k, (p : Int) ∣ g.cf k)
  | N, 0, m, f, g, _, hf, _, _ => .inl fun k => by rw [hf k (Nat.zero_le _)]; exact Int.dvd_zero _
  | N, n + 1, 0, f, g, _, _, hg, _ => .inr fun k => by rw [hg k (Nat.zero_le _)]; exact Int.dvd_zero _
  | 0, n + 1, m + 1, f, g, l, _, _, _ => by omega
  | N + 1, n + 1, m + 1, f, g, l, hf, hg, H => by
    have e1 : f * g = Ps.c (f.cf 0) * g + Ps.X * (Ps.shp f * g) := by
      conv => lhs; rw [Ps.split f]
      grind
    have e2 : f * g = Ps.c (g.cf 0) * f + Ps.X * (f * Ps.shp g) := by
      conv => lhs; rw [Ps.split g]
      grind
    have h0 : (f * g).cf 0 = f.cf 0 * g.cf 0 := rfl
    have all : ∀ {h : Ps Int}, (p : Int) ∣ h.cf 0 → (∀ k, (p : Int) ∣ (Ps.shp h).cf k) → ∀ k, (p : Int) ∣ h.cf k := fun {h} a b k => by
      cases k with
      | zero => exact a
      | succ k => exact b k
    have H0 := H 0
    rw [h0] at H0
    rcases hp.dvd H0 with a | a
    · have : ∀ k, (p : Int) ∣ (Ps.shp f * g).cf k := fun k => by
        have h := H (k + 1)
        rw [e1, Ps.add_cf, Ps.c_mul, Ps.X_succ] at h
        exact dvd_back h (Int.dvd_trans a (Int.dvd_mul_right _ _))
      rcases gauss hp N n (m + 1) (Ps.shp f) g (by omega) hf.shp hg this with q | q
      · exact .inl (all a q)
      · exact .inr q
    · have : ∀ k, (p : Int) ∣ (f * Ps.shp g).cf k := fun k => by
        have h := H (k + 1)
        rw [e2, Ps.add_cf, Ps.c_mul, Ps.X_succ] at h
        exact dvd_back h (Int.dvd_trans a (Int.dvd_mul_right _ _))
      rcases gauss hp N (n + 1) m f (Ps.shp g) (by omega) hf hg.shp this with q | q
      · exact .inl q
      · exact .inr (all a q)
theorem cv_cast (k : Nat) : ∀ (f g : Nat → Int), ((Ps.cv f g k : Int) : Rat) = Ps.cv (fun i => (f i : Rat)) (fun i => (g i : Rat)) k := by
  induction k with
  | zero => intro f g; show ((f 0 * g 0 : Int) : Rat) = _; rw [Rat.intCast_mul]; rfl
  | succ k ih =>
    intro f g
    show ((f 0 * g (k + 1) + Ps.cv (Ps.sh f) g k : Int) : Rat) = _
    rw [Rat.intCast_add, Rat.intCast_mul, ih]; rfl
def lz (xs : List Int) : Ps Int := ⟨co xs⟩
theorem lz_Bd (xs : List Int) : Ps.Bd xs.length (lz xs) := fun k hk => co_ge hk
theorem lz_prod {xs ys zs : List Int} (h : lv zs = lv xs * lv ys) (k : Nat) : (lz xs * lz ys).cf k = co zs k := ic_eq (by
  have e := congrArg (fun f => f.cf k) h
  show ((Ps.cv (co xs) (co ys) k : Int) : Rat) = _
  rw [cv_cast]
  exact e.symm)
theorem gaussL {p : Nat} (hp : Prm p) {xs ys zs : List Int} (h : lv zs = lv xs * lv ys) (H : ∀ k, (p : Int) ∣ co zs k) : (∀ k, (p : Int) ∣ co xs k) ∨ (∀ k, (p : Int) ∣ co ys k) :=
  gauss hp _ _ _ (lz xs) (lz ys) (Nat.le_refl _) (lz_Bd xs) (lz_Bd ys) fun k => by rw [lz_prod h]; exact H k
theorem lv_div {p : Nat} (hp : 0 < p) {ys : List Int} (H : ∀ k, (p : Int) ∣ co ys k) : lv ys = ci p * lv (ys.map fun y => y / (p : Int)) := Ps.ext fun k => by
  rw [Ps.c_mul, lv_cf, lv_cf, co_map (fun y => y / (p : Int)) (by simp), ← Rat.intCast_mul]
  congr 1
  exact (Int.mul_ediv_cancel' (H k)).symm
theorem mem_co {ys : List Int} {P : Int → Prop} (H : ∀ k, P (co ys k)) : ∀ y ∈ ys, P y := fun y hy => by
  obtain ⟨i, hi⟩ := List.getElem?_of_mem hy
  have := co_lt (List.getElem?_eq_some_iff.mp hi).1
  rw [hi] at this
  rw [Option.some.inj this]; exact H i
theorem prim_dvd0 {N G : List Int} (hG : cont G = 1) : ∀ (c : Nat) (ys : List Int), 0 < c → ci c * lv N = lv G * lv ys → ∃ zs, lv N = lv G * lv zs := by
  intro c
  induction c using Nat.strongRecOn with
  | ind c ih =>
    intro ys hc e
    by_cases c1 : c = 1
    · subst c1
      refine ⟨ys, ?_⟩
      rw [← e]
      show _ = (1 : Ps Rat) * lv N
      grind
    · obtain ⟨p, hp, d, hd⟩ := prm_ex c (by omega)
      have pp : 0 < p := by have := hp.1; omega
      have d0 : 0 < d := Nat.pos_of_ne_zero fun z => by rw [z] at hd; omega
      have e2 : lv (N.map fun x => (c : Int) * x) = lv G * lv ys := by rw [lv_map, e]
      rcases gaussL hp e2 fun k => by
        rw [co_map (fun x => (c : Int) * x) (by simp), hd, Int.natCast_mul]
        exact Int.dvd_trans (Int.dvd_mul_right _ _) (Int.dvd_mul_right _ _) with q | q
      · have := dvd_cont (m := p) (mem_co q)
        rw [hG] at this
        have := Nat.le_of_dvd (by omega) this
        have := hp.1
        omega
      · refine ih d (by have := (Nat.mul_lt_mul_right d0).mpr hp.1; omega) (ys.map fun y => y / (p : Int)) d0 (mul_can (f := ci p) (Pl.c _) ((Pl.c _).mul (Pl.lv _)) ((Pl.lv _).mul (Pl.lv _)) (fun z => ?_) ?_)
        · exact (ic_ne (d := (p : Int)) (by omega)) (by
            have := congrArg (fun f => f.cf 0) z
            rw [Ps.zero_cf] at this
            exact this)
        · have h1 : ci p * (ci d * lv N) = ci c * lv N := by
            rw [hd, Int.natCast_mul, ci_mul]; grind
          rw [h1, e, lv_div pp q]; grind
theorem clear_den : ∀ (n : Nat) (H : Ps Rat), Ps.Bd n H → ∃ (c : Nat) (ys : List Int), 0 < c ∧ ci c * H = lv ys
  | 0, H, h => ⟨1, [], by decide, by rw [h.nil, lv_nil]; grind⟩
  | n + 1, H, h => by
    obtain ⟨c, ys, hc, e⟩ := clear_den n (Ps.shp H) h.shp
    refine ⟨c * (H.cf 0).den, ((H.cf 0).num * c) :: ys.map (fun y => ((H.cf 0).den : Int) * y), Nat.mul_pos hc (H.cf 0).den_pos, ?_⟩
    rw [lv_cons, lv_map, ← e]
    have sp : ci ((c * (H.cf 0).den : Nat) : Int) * H = ci ((c * (H.cf 0).den : Nat) : Int) * (Ps.c (H.cf 0) + Ps.X * Ps.shp H) := by rw [← Ps.split H]
    have lc : Ps.c ((((H.cf 0).num * (c : Int) : Int)) : Rat) = ci (H.cf 0).num * ci c := ci_mul _ _
    rw [sp, Int.natCast_mul, ci_mul, lc]
    have hq : ci ((H.cf 0).den : Int) * Ps.c (H.cf 0) = ci (H.cf 0).num := by
      show Ps.c _ * Ps.c _ = Ps.c _
      rw [← Ps.c_mulc]
      congr 1
      have e1 : ((H.cf 0).num : Rat) / (((H.cf 0).den : Int) : Rat) = H.cf 0 := by rw [← Rat.divInt_eq_div, Rat.num_divInt_den]
      have e2 : (((H.cf 0).den : Int) : Rat) ≠ 0 := ic_ne (by have := (H.cf 0).den_pos; omega)
      generalize (((H.cf 0).den : Int) : Rat) = u at *
      generalize ((H.cf 0).num : Rat) = w at *
      rw [← e1]; grind
    have : ci c * ci ((H.cf 0).den : Int) * (Ps.c (H.cf 0) + Ps.X * Ps.shp H) = ci c * (ci ((H.cf 0).den : Int) * Ps.c (H.cf 0)) + Ps.X * (ci ((H.cf 0).den : Int) * (ci c * Ps.shp H)) := by grind
    rw [this, hq]; grind
theorem prim_dvd {N G : List Int} {H : Ps Rat} (hG : cont G = 1) (hH : Pl H) (e : lv N = lv G * H) : ∃ zs, lv N = lv G * lv zs := by
  obtain ⟨n, hn⟩ := hH
  obtain ⟨c, ys, hc, k⟩ := clear_den n H hn
  refine prim_dvd0 hG c ys hc ?_
  rw [e, ← k]; grind
def ladd : List Int → List Int → List Int
  | [], ys => ys
  | x :: xs, [] => x :: xs
  | x :: xs, y :: ys => (x + y) :: ladd xs ys
theorem ladd_co : ∀ (xs ys : List Int) (k : Nat), co (ladd xs ys) k = co xs k + co ys k
  | [], ys, k => by show co ys k = co [] k + _; rw [co_nil]; omega
  | x :: xs, [], k => by show co (x :: xs) k = _ + co [] k; rw [co_nil]; omega
  | x :: xs, y :: ys, 0 => rfl
  | x :: xs, y :: ys, k + 1 => ladd_co xs ys k
theorem ladd_len : ∀ (xs ys : List Int), ys.length ≤ xs.length → (ladd xs ys).length = xs.length
  | [], [], _ => rfl
  | [], y :: ys, h => by simp at h
  | x :: xs, [], _ => rfl
  | x :: xs, y :: ys, h => by
    show (ladd xs ys).length + 1 = xs.length + 1
    rw [ladd_len xs ys (by simpa using h)]
theorem ladd_hz (x : Int) : ∀ (xs ys : List Int), hz x (ladd xs ys) = hz x xs + hz x ys
  | [], ys => by show hz x ys = 0 + _; omega
  | a :: xs, [] => by show hz x (a :: xs) = _ + 0; omega
  | a :: xs, b :: ys => by
    show (a + b) + x * hz x (ladd xs ys) = (a + x * hz x xs) + (b + x * hz x ys)
    rw [ladd_hz x xs ys]; grind
theorem hz_map (x M : Int) : ∀ ys : List Int, hz x (ys.map fun y => M * y) = M * hz x ys
  | [] => by show (0 : Int) = M * 0; omega
  | y :: ys => by
    show M * y + x * hz x (ys.map fun y => M * y) = M * (y + x * hz x ys)
    rw [hz_map x M ys]; grind
def sdv (M : Int) : List Int → List Int
  | [] => []
  | a :: as => ladd as ((sdv M as).map fun y => M * y)
theorem sdv_len (M : Int) : ∀ xs : List Int, (sdv M xs).length = xs.length - 1
  | [] => rfl
  | a :: as => by
    show (ladd as ((sdv M as).map fun y => M * y)).length = as.length + 1 - 1
    rw [ladd_len _ _ (by rw [List.length_map, sdv_len M as]; omega)]; omega
theorem sdv_hz (M x : Int) : ∀ xs : List Int, hz x xs - hz M xs = (x - M) * hz x (sdv M xs)
  | [] => by show (0 : Int) - 0 = (x - M) * 0; omega
  | a :: as => by
    show (a + x * hz x as) - (a + M * hz M as) = (x - M) * hz x (ladd as ((sdv M as).map fun y => M * y))
    have ih := sdv_hz M x as
    rw [ladd_hz, hz_map]
    have : (x - M) * (hz x as + M * hz x (sdv M as)) = (x - M) * hz x as + M * ((x - M) * hz x (sdv M as)) := by grind
    rw [this, ← ih]; grind
theorem sdv_co (M : Int) : ∀ (xs : List Int) (k : Nat), co xs k = (match k with | 0 => hz M xs | j + 1 => co (sdv M xs) j) - M * co (sdv M xs) k
  | [], k => by
    have h : co (sdv M ([] : List Int)) k = 0 := co_nil k
    rw [h, co_nil]
    cases k with
    | zero => show (0 : Int) = 0 - M * 0; omega
    | succ k => show (0 : Int) = co [] k - M * 0; rw [co_nil]; omega
  | a :: as, k => by
    have hk : ∀ k, co (sdv M (a :: as)) k = co as k + M * co (sdv M as) k := fun k => by
      show co (ladd as ((sdv M as).map fun y => M * y)) k = _
      rw [ladd_co, co_map (fun y => M * y) (by simp)]
    cases k with
    | zero =>
      have ih := sdv_co M as 0
      rw [hk]
      show a = (a + M * hz M as) - M * (co as 0 + M * co (sdv M as) 0)
      dsimp only at ih
      have : M * hz M as = M * (co as 0 + M * co (sdv M as) 0) := by rw [ih]; congr 1; omega
      omega
    | succ k =>
      have ih := sdv_co M as (k + 1)
      rw [hk]
      show co as k = co (sdv M (a :: as)) k - M * (co as (k + 1) + M * co (sdv M as) (k + 1))
      rw [hk]
      dsimp only at ih
      rw [ih]; grind
theorem val_small : ∀ (l : Nat) (xs : List Int) (M : Int) (c m : Nat), xs.length ≤ l → (∀ i : Nat, i < l → Sm (hz (M + i) xs) c) → (∀ i : Nat, i < l → Sm (M + i) m) → 0 < c → ∀ k, Sm (co xs k) (c + l * (m + 3))
  | 0, xs, M, c, m, h, _, _, hc => fun k => by
    have : xs = [] := List.length_eq_zero_iff.mp (by omega)
    rw [this, co_nil]; exact Sm.zero (by omega)
  | l + 1, xs, M, c, m, h, hv, hm, hc => fun k => by
    have h0 := hv 0 (by omega)
    have m0 := hm 0 (by omega)
    rw [show M + ((0 : Nat) : Int) = M by omega] at h0 m0
    have ih := val_small l (sdv M xs) (M + 1) (c + 1) m (by rw [sdv_len]; omega) (fun i hi => by
      have e := sdv_hz M (M + 1 + i) xs
      have hi2 := hv (i + 1) (by omega)
      rw [show M + ((i + 1 : Nat) : Int) = M + 1 + i by omega] at hi2
      have d : Sm (hz (M + 1 + i) xs - hz M xs) (c + 1) := hi2.subUp2 h0 (Nat.le_refl _) (Nat.le_refl _)
      refine d.le ?_
      rw [e, show M + 1 + (i : Int) - M = 1 + i by omega, Int.natAbs_mul]
      exact Nat.le_mul_of_pos_left _ (by omega)) (fun i hi => by
      have := hm (i + 1) (by omega)
      rwa [show M + ((i + 1 : Nat) : Int) = M + 1 + i by omega] at this) (by omega)
    have e := sdv_co M xs k
    have ex : (l + 1) * (m + 3) = l * (m + 3) + (m + 3) := Nat.succ_mul _ _
    rw [e]
    refine Sm.subUp2 (a := c + 1 + l * (m + 3)) (b := m + (c + 1 + l * (m + 3))) ?_ (m0.mulUp (ih k) (Nat.le_refl _)) (by omega) (by omega)
    cases k with
    | zero => exact h0.up (by omega)
    | succ k => exact ih k
def Eb (l b : Nat) : Nat := (b + (b + l + 4) * l) + l * (b + l + 6)
theorem prim_size {N G : List Int} {H : Ps Rat} {l b : Nat} (hN : N.length ≤ l) (hb : ∀ k, Sm (co N k) b) (h0 : N ≠ []) (hl : co N (N.length - 1) ≠ 0) (hG : G.length ≤ l) (hc : cont G = 1) (hH : Pl H) (e : lv N = lv G * H) : ∀ k, Sm (co G k) (Eb l b) := by
  obtain ⟨zs, ez⟩ := prim_dvd hc hH e
  have bp := (hb 0).pos
  have hab := absS_lt hb
  have hX : 2 ^ (b + N.length) ≤ 2 ^ (b + l) := Nat.pow_le_pow_right (by decide) (by omega)
  have hl2 : l < 2 ^ (b + l) := Nat.lt_of_lt_of_le Nat.lt_two_pow_self (Nat.pow_le_pow_right (by decide) (by omega))
  have hm : ∀ i : Nat, i < l → Sm (((2 ^ (b + l) : Nat) : Int) + i) (b + l + 3) := fun i hi => ⟨by
    have e8 : 2 ^ (b + l + 3) = 2 ^ (b + l) * 2 ^ 3 := Nat.pow_add 2 (b + l) 3
    rw [e8]
    omega, by omega⟩
  have hv : ∀ i : Nat, i < l → Sm (hz (((2 ^ (b + l) : Nat) : Int) + i) G) (b + (b + l + 4) * l) := fun i hi => by
    have s := St.big (h := ((2 ^ (b + l) : Nat) : Int) + i) h0 hl (by omega)
    have hn : hz (((2 ^ (b + l) : Nat) : Int) + i) N ≠ 0 := by
      rw [← hz_shc]
      rcases s with ⟨s, _⟩ | ⟨s, _⟩ <;> omega
    have hs := (hz_sm (hm i hi) hb).up (b := b + (b + l + 4) * l) (by have := Nat.mul_le_mul_left (b + l + 4) hN; rw [Nat.mul_comm N.length, show b + l + 3 + 1 = b + l + 4 from rfl]; omega)
    have ep := hz_prod ez (((2 ^ (b + l) : Nat) : Int) + i)
    refine hs.le ?_
    rw [ep, Int.natAbs_mul]
    refine Nat.le_mul_of_pos_right _ (Int.natAbs_pos.mpr fun z => hn ?_)
    rw [ep, z, Int.mul_zero]
  have := val_small l G _ _ _ hG hv hm (by omega)
  exact this
end Pd
set_option maxHeartbeats 2000000
namespace Pd
open PySem PySem.Spec L2
theorem pigeon : ∀ (N : Nat) (f : Nat → Nat), (∀ i, i < N + 1 → f i < N) → ∃ i j, i < j ∧ j < N + 1 ∧ f i = f j
  | 0, f, h => absurd (h 0 (by omega)) (by omega)
  | N + 1, f, h => by
    by_cases q : ∃ i, i < N + 1 ∧ f i = f (N + 1)
    · obtain ⟨i, hi, e⟩ := q
      exact ⟨i, N + 1, hi, by omega, e⟩
    · have nq : ∀ i, i < N + 1 → f i ≠ f (N + 1) := fun i hi e => q ⟨i, hi, e⟩
      obtain ⟨i, j, h1, h2, h3⟩ := pigeon N (fun i => if f i = N then f (N + 1) else f i) fun i hi => by
        have a := h i (by omega)
        have b := h (N + 1) (by omega)
        have c := nq i hi
        show (if f i = N then f (N + 1) else f i) < N
        split <;> omega
      refine ⟨i, j, h1, by omega, ?_⟩
      have a := nq i (by omega)
      have b := nq j h2
      try dsimp only at h3
      split at h3 <;> split at h3 <;> omega
def enc (B : Nat) : Nat → (Nat → Nat) → Nat
  | 0, _ => 0
  | m + 1, g => enc B m g + g m * B ^ m
theorem enc_lt {B : Nat} : ∀ (m : Nat) (g : Nat → Nat), (∀ i, i < m → g i < B) → enc B m g < B ^ m
  | 0, g, h => by show 0 < B ^ 0; rw [Nat.pow_zero]; decide
  | m + 1, g, h => by
    have ih := enc_lt m g fun i hi => h i (by omega)
    have hm := h m (by omega)
    show enc B m g + g m * B ^ m < B ^ (m + 1)
    rw [Nat.pow_succ, Nat.mul_comm (B ^ m) B]
    have : (g m + 1) * B ^ m ≤ B * B ^ m := Nat.mul_le_mul_right _ hm
    rw [Nat.add_mul] at this
    omega
theorem enc_inj {B : Nat} : ∀ (m : Nat) (g h : Nat → Nat), (∀ i, i < m → g i < B) → (∀ i, i < m → h i < B) → enc B m g = enc B m h → ∀ i, i < m → g i = h i
  | 0, g, h, _, _, _ => fun i hi => absurd hi (by omega)
  | m + 1, g, h, hg, hh, e => by
    have a := enc_lt m g fun i hi => hg i (by omega)
    have b := enc_lt m h fun i hi => hh i (by omega)
    have e' : enc B m g + g m * B ^ m = enc B m h + h m * B ^ m := e
    have pos : 0 < B ^ m := by omega
    have q1 : g m = h m := by
      have x1 : (enc B m g + g m * B ^ m) / B ^ m = g m := by
        rw [Nat.add_mul_div_right _ _ pos, Nat.div_eq_of_lt a, Nat.zero_add]
      have x2 : (enc B m h + h m * B ^ m) / B ^ m = h m := by
        rw [Nat.add_mul_div_right _ _ pos, Nat.div_eq_of_lt b, Nat.zero_add]
      rw [← x1, e', x2]
    rw [q1] at e'
    intro i hi
    by_cases q : i = m
    · rw [q]; exact q1
    · exact enc_inj m g h (fun i hi => hg i (by omega)) (fun i hi => hh i (by omega)) (by omega) i (by omega)
def dgt (D c j : Nat) : Nat := c / D ^ j % D
theorem enc_dgt (D c : Nat) : ∀ n : Nat, enc D n (dgt D c) = c % D ^ n
  | 0 => by show 0 = _; rw [Nat.pow_zero, Nat.mod_one]
  | n + 1 => by
    show enc D n (dgt D c) + dgt D c n * D ^ n = _
    rw [enc_dgt D c n, Nat.mod_pow_succ]
    show _ + c / D ^ n % D * D ^ n = _
    rw [Nat.mul_comm (D ^ n)]
def dot : Nat → (Nat → Int) → (Nat → Int) → Int
  | 0, _, _ => 0
  | m + 1, a, v => dot m a v + a m * v m
theorem dot_congr : ∀ (m : Nat) {a b v w : Nat → Int}, (∀ j, j < m → a j * v j = b j * w j) → dot m a v = dot m b w
  | 0, _, _, _, _, _ => rfl
  | m + 1, a, b, v, w, h => by
    show dot m a v + a m * v m = dot m b w + b m * w m
    rw [dot_congr m fun j hj => h j (by omega), h m (by omega)]
theorem dot_sub : ∀ (m : Nat) (a v w : Nat → Int), dot m a (fun j => v j - w j) = dot m a v - dot m a w
  | 0, _, _, _ => rfl
  | m + 1, a, v, w => by
    show dot m a (fun j => v j - w j) + a m * (v m - w m) = (dot m a v + a m * v m) - (dot m a w + a m * w m)
    rw [dot_sub m a v w]; grind
theorem dot_zero : ∀ (m : Nat) {a v : Nat → Int}, (∀ j, j < m → a j * v j = 0) → dot m a v = 0
  | 0, _, _, _ => rfl
  | m + 1, a, v, h => by
    show dot m a v + a m * v m = 0
    rw [dot_zero m fun j hj => h j (by omega), h m (by omega)]; rfl
theorem dot_le {T : Nat} : ∀ (m : Nat) {a v : Nat → Int}, (∀ j, j < m → (a j * v j).natAbs ≤ T) → (dot m a v).natAbs ≤ m * T
  | 0, _, _, _ => by show (0 : Int).natAbs ≤ 0 * T; omega
  | m + 1, a, v, h => by
    have ih := dot_le m fun j hj => h j (by omega)
    have hm := h m (by omega)
    show (dot m a v + a m * v m).natAbs ≤ (m + 1) * T
    rw [Nat.add_mul]
    omega
theorem dot_small {m b e : Nat} {a v : Nat → Int} (ha : ∀ j, (a j).natAbs < 2 ^ b) (hv : ∀ j, (v j).natAbs < 2 ^ e) : (dot (m + 1) a v).natAbs < 2 ^ (m + b + e) := by
  have h1 := dot_le (T := 2 ^ (b + e) - 1) (m + 1) (a := a) (v := v) fun j _ => by
    rw [Int.natAbs_mul]
    have x := ha j
    have y := hv j
    have : (a j).natAbs * (v j).natAbs < 2 ^ b * 2 ^ e := Nat.mul_lt_mul'' x y
    rw [← Nat.pow_add] at this
    omega
  have hp : 0 < 2 ^ (b + e) := Nat.pow_pos (by decide)
  have h2 : (m + 1) * (2 ^ (b + e) - 1) < (m + 1) * 2 ^ (b + e) := Nat.mul_lt_mul_of_pos_left (by omega) (by omega)
  have h3 : m + 1 ≤ 2 ^ m := Nat.lt_two_pow_self
  have h4 : (m + 1) * 2 ^ (b + e) ≤ 2 ^ m * 2 ^ (b + e) := Nat.mul_le_mul_right _ h3
  rw [← Nat.pow_add, show m + (b + e) = m + b + e by omega] at h4
  omega
theorem siegel (m b : Nat) (a : Nat → Nat → Int) (ha : ∀ i j, (a i j).natAbs < 2 ^ b) : ∃ v : Nat → Int, (∃ j, j < m + 1 ∧ v j ≠ 0) ∧ (∀ j, (v j).natAbs < 2 ^ (m * (b + 1 + m) + 1)) ∧ ∀ i, i < m → dot (m + 1) (a i) v = 0 := by
  generalize he : m * (b + 1 + m) + 1 = e
  have Dpos : 0 < 2 ^ e := Nat.pow_pos (by decide)
  have dl : ∀ c j, dgt (2 ^ e) c j < 2 ^ e := fun c j => Nat.mod_lt _ Dpos
  have small : ∀ i c, (dot (m + 1) (a i) (fun j => (dgt (2 ^ e) c j : Int))).natAbs < 2 ^ (m + b + e) := fun i c => dot_small (ha i) fun j => by
    rw [Int.natAbs_natCast]; exact dl c j
  have val : ∀ i c, (dot (m + 1) (a i) (fun j => (dgt (2 ^ e) c j : Int)) + (2 ^ (m + b + e) : Nat)).toNat < 2 ^ (m + b + e + 1) := fun i c => by
    have := small i c
    rw [Nat.pow_succ]
    omega
  have room : (2 ^ (m + b + e + 1)) ^ m < (2 ^ e) ^ (m + 1) := by
    rw [← Nat.pow_mul, ← Nat.pow_mul]
    refine Nat.pow_lt_pow_right (by decide) ?_
    rw [show m + b + e + 1 = (b + 1 + m) + e by omega, Nat.add_mul, Nat.mul_comm (b + 1 + m) m, Nat.mul_add e m 1]
    omega
  obtain ⟨i, j, h1, h2, h3⟩ := pigeon ((2 ^ (m + b + e + 1)) ^ m) (fun c => enc (2 ^ (m + b + e + 1)) m fun i => (dot (m + 1) (a i) (fun j => (dgt (2 ^ e) c j : Int)) + (2 ^ (m + b + e) : Nat)).toNat) fun c _ => enc_lt m _ fun i _ => val i c
  have h4 := enc_inj m _ _ (fun k _ => val k i) (fun k _ => val k j) h3
  refine ⟨fun k => (dgt (2 ^ e) i k : Int) - (dgt (2 ^ e) j k : Int), ?_, fun k => ?_, fun k hk => ?_⟩
  · refine Classical.byContradiction fun z => ?_
    have same : ∀ k, k < m + 1 → dgt (2 ^ e) i k = dgt (2 ^ e) j k := fun k hk => Classical.byContradiction fun w => z ⟨k, hk, by show (dgt (2 ^ e) i k : Int) - (dgt (2 ^ e) j k : Int) ≠ 0; omega⟩
    have ei := enc_dgt (2 ^ e) i (m + 1)
    have ej := enc_dgt (2 ^ e) j (m + 1)
    rw [Nat.mod_eq_of_lt (by omega)] at ei ej
    have : enc (2 ^ e) (m + 1) (dgt (2 ^ e) i) = enc (2 ^ e) (m + 1) (dgt (2 ^ e) j) := by
      have gen : ∀ (n : Nat) (g h : Nat → Nat), (∀ k, k < n → g k = h k) → enc (2 ^ e) n g = enc (2 ^ e) n h := fun n => by
        induction n with
        | zero => intros; rfl
        | succ n ih =>
          intro g h w
          show enc _ n g + g n * _ = enc _ n h + h n * _
          rw [ih g h fun k hk => w k (by omega), w n (by omega)]
      exact gen _ _ _ same
    omega
  · have x := dl i k
    have y := dl j k
    show ((dgt (2 ^ e) i k : Int) - (dgt (2 ^ e) j k : Int)).natAbs < 2 ^ e
    omega
  · rw [dot_sub]
    have x := h4 k hk
    have y := small k i
    have z := small k j
    try dsimp only at x
    omega
theorem dot_front : ∀ (n : Nat) (a v : Nat → Int), dot (n + 1) a v = a 0 * v 0 + dot n (fun j => a (j + 1)) (fun j => v (j + 1))
  | 0, a, v => by show 0 + a 0 * v 0 = a 0 * v 0 + 0; omega
  | n + 1, a, v => by
    show dot (n + 1) a v + a (n + 1) * v (n + 1) = _
    rw [dot_front n a v]
    show _ = _ + (dot n (fun j => a (j + 1)) (fun j => v (j + 1)) + a (n + 1) * v (n + 1))
    omega
theorem cv_dot (k : Nat) : ∀ (f g : Nat → Int), Ps.cv f g k = dot (k + 1) (fun j => if j ≤ k then g (k - j) else 0) f := by
  induction k with
  | zero => intro f g; show f 0 * g 0 = 0 + g 0 * f 0; grind
  | succ k ih =>
    intro f g
    show f 0 * g (k + 1) + Ps.cv (Ps.sh f) g k = _
    rw [ih, dot_front (k + 1)]
    have : dot (k + 1) (fun j => if j + 1 ≤ k + 1 then g (k + 1 - (j + 1)) else 0) (fun j => f (j + 1)) = dot (k + 1) (fun j => if j ≤ k then g (k - j) else 0) (Ps.sh f) := dot_congr _ fun j hj => by
      show _ = _ * f (j + 1)
      try dsimp only
      rw [if_pos (by omega), if_pos (by omega), show k + 1 - (j + 1) = k - j by omega]
    rw [this]
    try dsimp only
    rw [if_pos (by omega)]
    show f 0 * g (k + 1) + _ = g (k + 1) * f 0 + _
    grind
theorem dot_up {a v : Nat → Int} {n : Nat} : ∀ (d : Nat), (∀ j, n ≤ j → a j * v j = 0) → dot (n + d) a v = dot n a v
  | 0, _ => rfl
  | d + 1, h => by
    show dot (n + d) a v + a (n + d) * v (n + d) = _
    rw [dot_up d h, h (n + d) (by omega)]; omega
theorem dot_le_up {a v : Nat → Int} {n m : Nat} (l : n ≤ m) (h : ∀ j, n ≤ j → a j * v j = 0) : dot m a v = dot n a v := by
  rw [show m = n + (m - n) by omega]; exact dot_up _ h
theorem cv_list (zs : List Int) (g : Nat → Int) (k : Nat) : Ps.cv (co zs) g k = dot zs.length (fun j => if j ≤ k then g (k - j) else 0) (co zs) := by
  rw [cv_dot]
  have a1 : ∀ j, zs.length ≤ j → (if j ≤ k then g (k - j) else 0) * co zs j = 0 := fun j hj => by rw [co_ge hj, Int.mul_zero]
  have a2 : ∀ j, k + 1 ≤ j → (if j ≤ k then g (k - j) else 0) * co zs j = 0 := fun j hj => by rw [if_neg (by omega), Int.zero_mul]
  rcases Nat.le_total zs.length (k + 1) with q | q
  · exact dot_le_up q a1
  · exact (dot_le_up q a2).symm
theorem dot_add : ∀ (n m : Nat) (a v : Nat → Int), dot (n + m) a v = dot n a v + dot m (fun j => a (n + j)) (fun j => v (n + j))
  | n, 0, a, v => by show dot n a v = _ + 0; omega
  | n, m + 1, a, v => by
    show dot (n + m) a v + a (n + m) * v (n + m) = _ + (dot m _ _ + a (n + m) * v (n + m))
    rw [dot_add n m a v]; omega
theorem co_tab (v : Nat → Int) (n k : Nat) : co ((List.range n).map v) k = if k < n then v k else 0 := by
  split
  · rename_i h
    have := co_lt (xs := (List.range n).map v) (k := k) (by simp; exact h)
    rw [List.getElem?_map, List.getElem?_range h] at this
    exact (Option.some.inj this).symm
  · exact co_ge (by simp; omega)
theorem siegel_po {X Y : List Int} {l b n : Nat} (hX : ∀ k, Sm (co X k) b) (hY : ∀ k, Sm (co Y k) b) (l1 : 1 ≤ l) (lX : l ≤ X.length) (nX : X.length ≤ n) (nY : Y.length ≤ n) :
    ∃ z w N : List Int, lv N = lv z * lv X + lv w * lv Y ∧ N.length ≤ l - 1 ∧ (∀ k, Sm (co N k) (2 * n + b + (2 * n * (b + 1 + 2 * n) + 1))) ∧ Ps.Bd (X.length + 1 - l) (lv w) ∧ (lv z ≠ 0 ∨ lv w ≠ 0) := by
  generalize hnz : Y.length + 1 - l = nz
  generalize hnw : X.length + 1 - l = nw
  obtain ⟨m, hm⟩ : ∃ m, nz + nw = m + 1 := ⟨nz + nw - 1, by omega⟩
  have m2 : m ≤ 2 * n := by omega
  let a : Nat → Nat → Int := fun k j => if j < nz then (if j ≤ k then co X (k - j) else 0) else (if j - nz ≤ k then co Y (k - (j - nz)) else 0)
  have b0 : 0 < 2 ^ b := Nat.pow_pos (by decide)
  have ha : ∀ k j, (a k j).natAbs < 2 ^ b := fun k j => by
    show (if j < nz then (if j ≤ k then co X (k - j) else 0) else (if j - nz ≤ k then co Y (k - (j - nz)) else 0)).natAbs < 2 ^ b
    split <;> split
    · exact (hX _).1
    · exact b0
    · exact (hY _).1
    · exact b0
  obtain ⟨v, ⟨j0, hj0, nz0⟩, vs, v0⟩ := siegel m b (fun i => a (l - 1 + i)) fun i j => ha _ _
  have cf : ∀ k, dot (m + 1) (a k) v = Ps.cv (co ((List.range nz).map v)) (co X) k + Ps.cv (co ((List.range nw).map fun j => v (nz + j))) (co Y) k := fun k => by
    rw [← hm, dot_add, cv_list, cv_list]
    simp only [List.length_map, List.length_range]
    congr 1
    · refine dot_congr _ fun j hj => ?_
      rw [co_tab, if_pos hj]
      show (if j < nz then _ else _) * _ = _
      rw [if_pos hj]
    · refine dot_congr _ fun j hj => ?_
      rw [co_tab, if_pos hj]
      show (if nz + j < nz then _ else _) * _ = _
      rw [if_neg (by omega), show nz + j - nz = j by omega]
  have e1 : m * (b + 1 + m) + 1 ≤ 2 * n * (b + 1 + 2 * n) + 1 := Nat.succ_le_succ (Nat.mul_le_mul m2 (by omega))
  have bp := (hX 0).pos
  refine ⟨(List.range nz).map v, (List.range nw).map (fun j => v (nz + j)), (List.range (l - 1)).map fun k => dot (m + 1) (a k) v, Ps.ext fun k => ?_, by simp, fun k => ?_, ?_, ?_⟩
  · rw [lv_cf, Ps.add_cf]
    have q : ∀ zs ys : List Int, (lv zs * lv ys).cf k = ((Ps.cv (co zs) (co ys) k : Int) : Rat) := fun zs ys => (cv_cast k (co zs) (co ys)).symm
    rw [q, q, ← Rat.intCast_add, ← cf, co_tab]
    congr 1
    split
    · rfl
    · rename_i h
      by_cases h2 : k < l - 1 + m
      · have := v0 (k - (l - 1)) (by omega)
        try dsimp only at this
        rw [show l - 1 + (k - (l - 1)) = k by omega] at this
        exact this.symm
      · refine (dot_zero _ fun j hj => ?_).symm
        have : a k j = 0 := by
          show (if j < nz then (if j ≤ k then co X (k - j) else 0) else (if j - nz ≤ k then co Y (k - (j - nz)) else 0)) = 0
          split
          · split
            · exact co_ge (by omega)
            · rfl
          · split
            · exact co_ge (by omega)
            · rfl
        rw [this, Int.zero_mul]
  · rw [co_tab]
    split
    · refine ⟨Nat.lt_of_lt_of_le (dot_small (m := m) (ha k) vs) (Nat.pow_le_pow_right (by decide) (by omega)), by omega⟩
    · exact Sm.zero (by omega)
  · intro k hk
    rw [lv_cf, co_tab, if_neg (by omega)]; rfl
  · by_cases q : j0 < nz
    · left
      intro z
      have := congrArg (fun f => f.cf j0) z
      try dsimp only at this
      rw [lv_cf, co_tab, if_pos q, Ps.zero_cf] at this
      exact nz0 (ic_eq this)
    · right
      intro z
      have := congrArg (fun f => f.cf (j0 - nz)) z
      try dsimp only at this
      rw [lv_cf, co_tab, if_pos (by omega), Ps.zero_cf, show nz + (j0 - nz) = j0 by omega] at this
      exact nz0 (ic_eq this)
structure Cf (X Y f g : Ps Rat) (L l : Nat) : Prop where
  ex : ∃ z1 w1 z2 w2 : Ps Rat, ∃ c : Rat, c ≠ 0 ∧ g = z1 * X + w1 * Y ∧ f = z2 * X + w2 * Y ∧ z1 * w2 - z2 * w1 = Ps.c c ∧ Pl z1 ∧ Pl z2 ∧ Ps.Bd (L + 1 - l) w1 ∧ Ps.Bd (L + 1 - l) w2
theorem cf_dvd {X Y f g N z w : Ps Rat} {L l : Nat} (h : Cf X Y f g L l) (hX : Dg (L - 1) X) (pY : Pl Y) (L1 : 1 ≤ L) (l1 : 1 ≤ l) (hl : l ≤ L) (hg : Ps.Bd (l - 1) g) (hN : N = z * X + w * Y) (bN : Ps.Bd (l - 1) N) (pz : Pl z) (bw : Ps.Bd (L + 1 - l) w) (nz : z ≠ 0 ∨ w ≠ 0) : ∃ t, Pl t ∧ t ≠ 0 ∧ N = t * g := by
  obtain ⟨z1, w1, z2, w2, c, c0, eg, ef, det, p1, p2, b1, b2⟩ := h.ex
  have pw : Pl w := ⟨_, bw⟩
  have q1 : Pl w1 := ⟨_, b1⟩
  have q2 : Pl w2 := ⟨_, b2⟩
  have key : z * w1 = z1 * w := by
    have e1 : N * w1 - g * w = (z * w1 - z1 * w) * X := by rw [hN, eg]; grind
    have b3 : Ps.Bd (L - 1) (N * w1 - g * w) := ((bN.mul b1).up (by omega)).sub ((hg.mul bw).up (by omega))
    refine Classical.byContradiction fun ne => ?_
    have d0 : z * w1 - z1 * w ≠ 0 := fun q => ne (by
      have : z * w1 = (z * w1 - z1 * w) + z1 * w := by grind
      rw [this, q]; grind)
    obtain ⟨d, hd⟩ := ((pz.mul q1).sub (p1.mul pw)).dg d0
    have := (hd.mul hX).2
    rw [← e1] at this
    exact this (b3 _ (by omega))
  have k := cc c0
  have hw : w = Ps.c c⁻¹ * (z * w2 - z2 * w) * w1 := by
    have h1 : Ps.c c * w = (z * w2 - z2 * w) * w1 := by
      rw [← det]
      have : (z1 * w2 - z2 * w1) * w = (z1 * w) * w2 - z2 * w1 * w := by grind
      rw [this, ← key]; grind
    have h2 : Ps.c c⁻¹ * (Ps.c c * w) = w := by
      have : Ps.c c⁻¹ * (Ps.c c * w) = (Ps.c c * Ps.c c⁻¹) * w := by grind
      rw [this, k]; grind
    refine h2.symm.trans ?_
    rw [h1]; grind
  have hz : z = Ps.c c⁻¹ * (z * w2 - z2 * w) * z1 := by
    have h1 : Ps.c c * z = (z * w2 - z2 * w) * z1 := by
      rw [← det]
      have : (z1 * w2 - z2 * w1) * z = z1 * w2 * z - z2 * (z * w1) := by grind
      rw [this, key]; grind
    have h2 : Ps.c c⁻¹ * (Ps.c c * z) = z := by
      have : Ps.c c⁻¹ * (Ps.c c * z) = (Ps.c c * Ps.c c⁻¹) * z := by grind
      rw [this, k]; grind
    refine h2.symm.trans ?_
    rw [h1]; grind
  generalize ht : Ps.c c⁻¹ * (z * w2 - z2 * w) = t at hw hz
  refine ⟨t, ?_, fun t0 => ?_, ?_⟩
  · rw [← ht]; exact (Pl.c _).mul ((pz.mul q2).sub (p2.mul pw))
  · rw [t0] at hz hw
    rcases nz with q | q
    · exact q (by rw [hz]; grind)
    · exact q (by rw [hw]; grind)
  · rw [hN, hz, hw, eg]; grind
theorem quo_Bd {f g Q R : Ps Rat} {lf lg : Nat} (e : f = Q * g + R) (hf : Ps.Bd lf f) (hg : Dg (lg - 1) g) (hR : Ps.Bd (lg - 1) R) (pQ : Pl Q) (h1 : 1 ≤ lg) : Ps.Bd (lf + 1 - lg) Q := by
  by_cases q : Q = 0
  · rw [q]; exact Ps.Bd.zero.up (Nat.zero_le _)
  · obtain ⟨d, hd⟩ := pQ.dg q
    have h2 := (hd.mul hg).2
    have h3 : Q * g = f - R := by rw [e]; grind
    rw [h3, Ps.sub_cf, hR _ (by omega)] at h2
    have h4 : d + (lg - 1) < lf := Classical.byContradiction fun z => h2 (by rw [hf _ (by omega)]; grind)
    exact hd.1.up (by omega)
theorem Cf.step {X Y f g Q R R' : Ps Rat} {L lf lg lr : Nat} {r : Rat} (h : Cf X Y f g L (max lf lg)) (hf : lf ≤ L) (hl : lg ≤ L) (h1 : 1 ≤ lg) (hr : lr < lg) (e : f = Q * g + R) (r0 : r ≠ 0) (e' : R' = Ps.c r * R) (bQ : Ps.Bd (lf + 1 - lg) Q) : Cf X Y g R' L (max lg lr) := by
  obtain ⟨z1, w1, z2, w2, c, c0, eg, ef, det, p1, p2, b1, b2⟩ := h.ex
  have m : max lg lr = lg := by omega
  have pQ : Pl Q := ⟨_, bQ⟩
  rw [m]
  refine ⟨Ps.c r * (z2 - Q * z1), Ps.c r * (w2 - Q * w1), z1, w1, -(r * c), ?_, ?_, eg, ?_, (Pl.c _).mul (p2.sub (pQ.mul p1)), p1, ?_, b1.up (by omega)⟩
  · intro z
    have : r * c = 0 := by grind
    rcases Rat.mul_eq_zero.mp this with q | q
    · exact r0 q
    · exact c0 q
  · have : R = f - Q * g := by rw [e]; grind
    rw [e', this, ef, eg]; grind
  · have e1 : Ps.c (-(r * c)) = -(Ps.c r * (z1 * w2 - z2 * w1)) := by
      rw [det, ← Ps.c_mulc]
      exact Ps.ext fun k => by
        rw [Ps.neg_cf, Ps.c_cf, Ps.c_cf]
        split
        · rfl
        · grind
    rw [e1]; grind
  · refine (Ps.Bd.sub (b2.up (by omega)) ?_).cmul r
    exact (bQ.mul b1).up (by omega)
def Sg (n b : Nat) : Nat := Eb n (2 * n + b + (2 * n * (b + 1 + 2 * n) + 1))
theorem le_Eb (l b : Nat) : b ≤ Eb l b := by unfold Eb; omega
theorem Sg_ge (n b : Nat) : b ≤ Sg n b := Nat.le_trans (by omega) (le_Eb n _)
theorem trim_nz {N : List Int} (h : lv N ≠ 0) : trim N ≠ [] ∧ co (trim N) ((trim N).length - 1) ≠ 0 ∧ (trim N).length ≤ N.length := by
  have l : (trim N).length = tsz N := by
    show (N.take (tsz N)).length = _
    rw [List.length_take]; have := tsz_le N; omega
  have t0 : tsz N ≠ 0 := fun z => h (Ps.ext fun k => by rw [lv_cf, tsz_zero N k (by omega), Ps.zero_cf]; rfl)
  refine ⟨fun z => t0 (by rw [← l, z]; rfl), ?_, by rw [l]; exact tsz_le N⟩
  rw [l, co_trim]
  exact tsz_last N t0
theorem eu_small {X Y G : List Int} {f g : Ps Rat} {l n b : Nat} {r : Rat} (h : Cf (lv X) (lv Y) f g X.length l) (hX : ∀ k, Sm (co X k) b) (hY : ∀ k, Sm (co Y k) b) (X0 : Dg (X.length - 1) (lv X)) (l1 : 1 ≤ l) (hl : l ≤ X.length) (nX : X.length ≤ n) (nY : Y.length ≤ n) (hg : Ps.Bd (l - 1) g) (g0 : g ≠ 0) (pg : Pl g) (r0 : r ≠ 0) (eG : lv G = Ps.c r * g) (cG : cont G = 1) (lG : G.length ≤ n) : ∀ k, Sm (co G k) (Sg n b) := by
  obtain ⟨z, w, N, eN, lN, sN, bw, nz⟩ := siegel_po hX hY l1 hl nX nY
  obtain ⟨t, pt, t0, et⟩ := cf_dvd h X0 (Pl.lv Y) (by omega) l1 hl hg eN (lv_Bd lN) (Pl.lv z) bw nz
  have N0 : lv N ≠ 0 := by rw [et]; exact mul_ne pt pg t0 g0
  obtain ⟨n1, n2, n3⟩ := trim_nz N0
  have k := cc r0
  have eT : lv (trim N) = lv N := Ps.ext fun k => by rw [lv_cf, lv_cf, co_trim]
  refine prim_size (N := trim N) (H := Ps.c r⁻¹ * t) (by omega) (fun k => by rw [co_trim]; exact sN k) n1 n2 lG cG ((Pl.c _).mul pt) ?_
  rw [eT, et, eG]
  have : Ps.c r * g * (Ps.c r⁻¹ * t) = (Ps.c r * Ps.c r⁻¹) * (t * g) := by grind
  rw [this, k]; grind
end Pd
set_option maxHeartbeats 2000000
namespace Pd
open PySem PySem.Spec L2
section
variable {p q : Po} {n b m c : Nat}
theorem po_ne {p : Po} : p.coefs ≠ [] ↔ p.coefs.length ≠ 0 := by
  rw [Ne, ← List.length_eq_zero_iff]
theorem divide_sh {e f : Nat} (hp : PoS p n b) (hq : PoS q m c) (h0 : q.coefs.length ≠ 0) (hn : n ≤ 1000) (hm : m ≤ 1000) (he : Sm p.den e) (hf : Sm q.den f) (hb : b + (p.coefs.length + 1 - q.coefs.length) * (c + 1) + c + e + f ≤ 40000000) : v_divide p q ∧ ∃ Q R, q_divide p q = (Q, R) ∧ PoS Q n (b + (p.coefs.length + 1 - q.coefs.length) * (c + 1) + 1 + e + f) ∧ PoS R (q.coefs.length - 1) (b + (p.coefs.length + 1 - q.coefs.length) * (c + 1) + 1 + e) ∧ (∀ k, Sm (co R.coefs k) (b + (p.coefs.length + 1 - q.coefs.length) * (c + 1))) ∧ pv p = pv Q * pv q + pv R := by
  have l1 := hp.len
  have l2 := hq.len
  have bp0 := (hp.c 0).pos
  have gl : gt q.coefs ((q.coefs.length : Int) - 1) = co q.coefs (q.coefs.length - 1) := by
    rw [show (q.coefs.length : Int) - 1 = ((q.coefs.length - 1 : Nat) : Int) by omega, gt_co]
  have il : inR q.coefs ((q.coefs.length : Int) - 1) := by unfold inR; omega
  have zl : ((rngT 0 (((p.coefs.length : Int) - (q.coefs.length : Int)) + 1)).map fun (x2 : Int) => (0 : Int)) = List.replicate (p.coefs.length + 1 - q.coefs.length) 0 := by
    rw [rng_zeros]; congr 1; omega
  generalize hs : p.coefs.length + 1 - q.coefs.length = s at zl hb ⊢
  have ss : s ≤ n := by omega
  have lz : ((List.replicate s (0 : Int)).length : Int) = (s : Int) := by rw [List.length_replicate]
  have lp := forV_inv0 (V := fun (s11 : (List Int) × (List Int) × Int) (x12 : Int) => v_divide_7 p q (q.coefs.length : Int) (co q.coefs (q.coefs.length - 1)) s11.1 s11.2.1 s11.2.2 x12) (f := fun (s11 : (List Int) × (List Int) × Int) (x12 : Int) => q_divide_7 p q (q.coefs.length : Int) (co q.coefs (q.coefs.length - 1)) s11.1 s11.2.1 s11.2.2 x12) (xs := rngDT ((s : Int) - 1) (-1)) (s := (p.coefs, List.replicate s 0, 1))
    (fun i t => t.1.length = p.coefs.length ∧ t.2.1.length = s ∧ (∀ k, Sm (co t.1 k) (b + i * (c + 1))) ∧ (∀ k, Sm (co t.2.1 k) (b + i * (c + 1))) ∧ Sm t.2.2 (1 + i * c) ∧ t.2.2 ≠ 0 ∧ (∀ k, s - i + q.coefs.length - 1 ≤ k → co t.1 k = 0) ∧ ci t.2.2 * lv p.coefs = lv t.2.1 * lv q.coefs + lv t.1)
    ⟨rfl, by simp, fun k => by rw [Nat.zero_mul]; exact hp.c k, fun k => by rw [Nat.zero_mul]; show Sm (co (List.replicate s 0) k) _; rw [co_repl]; exact Sm.zero (by have := (hp.c 0).pos; omega), ⟨by rw [Nat.zero_mul]; show (1 : Nat) < _; decide, by omega⟩, (by show (1 : Int) ≠ 0; decide), fun k hk => by
      show co p.coefs k = 0
      exact co_ge (by omega), by
      show ci 1 * lv p.coefs = lv (List.replicate s 0) * lv q.coefs + lv p.coefs
      have z : lv (List.replicate s 0) = 0 := Ps.ext fun k => by rw [lv_cf, co_repl, Ps.zero_cf]; rfl
      rw [z, ci_one]; grind⟩ fun i x t hx ⟨t1, t2, t3, t4, t5, t6, t7, t8⟩ => by
      obtain ⟨hi, e⟩ := rngD_get hx
      obtain ⟨rest, quo, sc⟩ := t
      dsimp only at t1 t2 t3 t4 t5 t6 t7 t8
      have hi' : i < s := by omega
      have e' : x = ((s - 1 - i : Nat) : Int) := by omega
      subst e'
      have b1 : i * (c + 1) ≤ s * (c + 1) := Nat.mul_le_mul_right _ (by omega)
      have b2 : i * c ≤ i * (c + 1) := Nat.mul_le_mul_left _ (by omega)
      have b3 : (i + 1) * (c + 1) = i * (c + 1) + (c + 1) := Nat.succ_mul _ _
      have b4 : (i + 1) * c = i * c + c := Nat.succ_mul _ _
      obtain ⟨v, rest', quo', sc', eq, u1, u2, u3, u4, u5, u6, u7, u8⟩ := div_step (p := p) hq h0 (s := s) (j := s - 1 - i) (N := p.coefs.length) (by omega) t1 t2 (by omega) (by omega) (by omega) (by omega) (by omega) t3 t4 t5 t6 (fun k hk => t7 k (by omega)) t8
      refine ⟨v, ?_⟩
      show _ ∧ _
      dsimp only
      rw [eq]
      exact ⟨u1, u2, fun k => (u3 k).up (by omega), fun k => (u4 k).up (by omega), u5.up (by omega), u6, fun k hk => u7 k (by omega), u8⟩
  rw [rngD_length, show ((s : Int) - 1 - (-1)).toNat = s by omega] at lp
  obtain ⟨v, t1, t2, t3, t4, t5, t6, t7, t8⟩ := lp
  generalize hT : (rngDT ((s : Int) - 1) (-1)).foldl (fun (s11 : (List Int) × (List Int) × Int) (x12 : Int) => q_divide_7 p q (q.coefs.length : Int) (co q.coefs (q.coefs.length - 1)) s11.1 s11.2.1 s11.2.2 x12) (p.coefs, List.replicate s 0, 1) = T at t1 t2 t3 t4 t5 t6 t7 t8
  obtain ⟨rest, quo, sc⟩ := T
  dsimp only at t1 t2 t3 t4 t5 t6 t7 t8
  have b2 : s * c ≤ s * (c + 1) := Nat.mul_le_mul_left _ (by omega)
  have bp := (hp.c 0).pos
  have hd : sc * p.den ≠ 0 := Int.mul_ne_zero t6 hp.ne'
  have sd : Sm (sc * p.den) (b + s * (c + 1) + 1 + e) := t5.mulUp he (by omega)
  have cq : ∀ k, co (quo.map fun (x14 : Int) => (x14 * q.den)) k = co quo k * q.den := fun k => co_map (fun x => x * q.den) (by simp) _ k
  obtain ⟨vQ, sQ, eQ⟩ := (⟨by rw [List.length_map]; omega, fun k => by rw [cq]; exact (t4 k).mulUp hf (by omega)⟩ : LS (quo.map fun (x14 : Int) => (x14 * q.den)) n (b + s * (c + 1) + 1 + e + f)).po hd (by omega) (sd.up (by omega))
  obtain ⟨vR, sR, eR⟩ := (⟨by omega, fun k => (t3 k).up (by omega)⟩ : LS rest n (b + s * (c + 1) + 1 + e)).po hd (by omega) sd
  have cR : ∀ k, Sm (co (q_Poly_init rest (sc * p.den)).coefs k) (b + s * (c + 1)) := fun k => by
    obtain ⟨_, eI⟩ := polyInit_spec (xs := rest) hd (by omega)
    rw [eI]
    exact (t3 k).le (plC_small hd k)
  have zR : Ps.Bd (q.coefs.length - 1) (pv (q_Poly_init rest (sc * p.den))) := fun k hk => by
    have h1 : (lv rest).cf k = (ci (sc * p.den) * pv (q_Poly_init rest (sc * p.den))).cf k := by rw [eR]
    rw [lv_cf, t7 k (by omega), Ps.c_mul] at h1
    have := ic_ne hd
    have h2 : (0 : Rat) = ((sc * p.den : Int) : Rat) * (pv (q_Poly_init rest (sc * p.den))).cf k := h1
    grind
  have lR := pv_len sR zR
  have q15 : q_divide_15 p q (q.coefs.length : Int) (co q.coefs (q.coefs.length - 1)) p.coefs (List.replicate s 0) 1 = (rest, quo, sc) := by
    unfold q_divide_15; rw [lz]; exact hT
  have E : q_divide p q = (q_Poly_init (quo.map fun (x14 : Int) => (x14 * q.den)) (sc * p.den), q_Poly_init rest (sc * p.den)) := by
    show q_divide_2 p q (q.coefs.length : Int) = _
    unfold q_divide_2 q_divide_3 q_divide_4 q_divide_5 q_divide_6
    rw [gl, zl, q15]; rfl
  refine ⟨?_, _, _, E, sQ, ⟨sR.pos, sR.cop, sR.last, lR, sR.c, sR.d⟩, cR, ?_⟩
  · refine ⟨by rw [po_zero]; exact decide_eq_false h0, il, ?_⟩
    rw [gl]
    refine ⟨rOk_of (by omega) (by omega), line_le (by rw [rngT_length]; omega), ?_⟩
    rw [zl]
    unfold v_divide_5 v_divide_6
    rw [q15, lz]
    exact ⟨rOk_of (by omega) (by omega), v, mulOk_sm t5 he (by omega), fun x hx => mulOk_sm ((⟨Nat.le_refl _, t4⟩ : LS quo quo.length _).mem hx) hf (by omega), line_le (by show quo.length ≤ _; omega), vQ, vR⟩
  · refine ci_can hd ?_
    have e1 : ci (sc * p.den) * pv p = ci sc * lv p.coefs := by rw [pv_lv hp, ci_mul]; show _ = ci sc * (ci p.den * pv p); grind
    rw [e1, t8, eR, pv_lv hq]
    rw [lv_mapr] at eQ
    generalize pv (q_Poly_init (quo.map fun (x14 : Int) => (x14 * q.den)) (sc * p.den)) = QQ at eQ ⊢
    generalize pv (q_Poly_init rest (sc * p.den)) = RR
    show lv quo * (ci q.den * pv q) + _ = _
    grind
theorem pv_ne (hp : PoS p n b) (h : p.coefs ≠ []) : Dg (p.coefs.length - 1) (pv p) := ⟨fun k hk => by
  show (co p.coefs k : Rat) / p.den = 0
  rw [co_ge (by have := po_ne.mp h; omega)]
  grind, fun z => by
  have h1 : (co p.coefs (p.coefs.length - 1) : Rat) / p.den = 0 := z
  have h2 := hp.ne
  have h3 := ic_ne (hp.last h)
  grind⟩
theorem pv_nil (h : p.coefs = []) : pv p = 0 := Ps.ext fun k => by
  show (co p.coefs k : Rat) / p.den = _
  rw [h, co_nil, Ps.zero_cf, show ((0 : Int) : Rat) = 0 from rfl]; grind
theorem pv_zero_iff (hp : PoS p n b) : pv p = 0 ↔ p.coefs = [] := ⟨fun h => Classical.byContradiction fun z => (pv_ne hp z).ne h, pv_nil⟩
theorem one_sm {b : Nat} (h : 0 < b) : Sm 1 b := ⟨by show 1 < 2 ^ b; exact Nat.one_lt_two_pow (by omega), h⟩
theorem den_one (h : p.den = 1) : pv p = lv p.coefs := Ps.ext fun k => by
  show (co p.coefs k : Rat) / (p.den : Rat) = co p.coefs k
  rw [h, show ((1 : Int) : Rat) = 1 from rfl]; grind
theorem prim_spec (hp : PoS p n m) (hc : ∀ k, Sm (co p.coefs k) b) (hn : n ≤ 1000000) : v_primitive p ∧ PoS (q_primitive p) n b ∧ (q_primitive p).den = 1 ∧ (q_primitive p).coefs.length = p.coefs.length ∧ (p.coefs ≠ [] → cont (q_primitive p).coefs = 1) ∧ ∃ r : Rat, r ≠ 0 ∧ pv (q_primitive p) = Ps.c r * pv p := by
  have hz := po_zero p
  have bp := (hc 0).pos
  by_cases h0 : p.coefs = []
  · have h1 : q_Poly_is_zero p = true := by rw [hz, h0]; rfl
    have E : q_primitive p = p := by
      show (if q_Poly_is_zero p = true then p else q_primitive_2 p) = p
      rw [if_pos h1]
    have d1 : p.den = 1 := by
      have := hp.cop
      have p0 := hp.pos
      rw [h0] at this
      have e : Nat.gcd (cont []) p.den.natAbs = p.den.natAbs := by show Nat.gcd 0 _ = _; exact Nat.gcd_zero_left _
      omega
    rw [E]
    exact ⟨fun z => (by rw [h1] at z; cases z), ⟨hp.pos, hp.cop, hp.last, hp.len, hc, by rw [d1]; exact one_sm bp⟩, d1, rfl, fun z => absurd h0 z, 1, by decide, by show _ = (1 : Ps Rat) * pv p; grind⟩
  · have hl0 := po_ne.mp h0
    have h1 : q_Poly_is_zero p = false := by rw [hz]; exact decide_eq_false hl0
    have hlast := hp.last h0
    have hl := hp.len
    have gpos : 0 < cont p.coefs := Nat.pos_of_ne_zero fun z => by
      have := cont_dvd (List.mem_of_getElem? (co_lt (xs := p.coefs) (k := p.coefs.length - 1) (by omega)))
      rw [z] at this
      exact hlast (Int.zero_dvd.mp (by simpa using this))
    have hd : ((cont p.coefs : Nat) : Int) ≠ 0 := by omega
    have ec : q_content_x2 p.coefs = (cont p.coefs : Int) := by
      show p.coefs.foldl (fun (s1 : Int) (x2 : Int) => (Int.gcd s1 x2 : Int)) 0 = _
      exact foldl_int p.coefs 0
    have E : q_primitive p = q_Poly_init p.coefs (cont p.coefs : Int) := by
      show (if q_Poly_is_zero p = true then p else q_Poly_init_x2 p.coefs (q_content_x2 p.coefs)) = _
      rw [if_neg (by rw [h1]; decide), ec]; rfl
    obtain ⟨v, eI⟩ := polyInit_spec (xs := p.coefs) hd (by omega)
    have tr : trim p.coefs = p.coefs := by unfold trim; rw [hp.tsz, List.take_length]
    have eS : plS p.coefs (cont p.coefs : Int) = (cont p.coefs : Int) := by
      unfold plS
      rw [if_neg (by omega), tr, Int.natAbs_natCast, Nat.gcd_self]
    have eD : plD p.coefs (cont p.coefs : Int) = 1 := by
      have := plD_mul (xs := p.coefs) hd
      rw [eS] at this
      have h2 : (plD p.coefs (cont p.coefs : Int) - 1) * (cont p.coefs : Int) = 0 := by rw [Int.sub_mul, this]; omega
      have := (Int.mul_eq_zero.mp h2).resolve_right hd
      omega
    have eC : cont (plC p.coefs (cont p.coefs : Int)) = 1 := by
      have h2 : (plC p.coefs (cont p.coefs : Int)).map (· * plS p.coefs (cont p.coefs : Int)) = trim p.coefs := by
        unfold plC
        rw [List.map_map]
        conv => rhs; rw [← List.map_id (trim p.coefs)]
        refine List.map_congr_left fun x hx => ?_
        exact fdiv_mul_of_dvd (plS_ne hd) (plS_dvd hx)
      have h3 := cont_mul (plC p.coefs (cont p.coefs : Int)) (plS p.coefs (cont p.coefs : Int))
      rw [h2, tr, eS, Int.natAbs_natCast] at h3
      exact Nat.eq_of_mul_eq_mul_right gpos (by omega)
    have len : (plC p.coefs (cont p.coefs : Int)).length = p.coefs.length := by rw [plC_len, hp.tsz]
    rw [E, eI]
    refine ⟨fun _ => ?_, ⟨plD_pos hd, pl_gcd hd, plC_last hd, by show (plC p.coefs _).length ≤ n; omega, fun k => (hc k).le (plC_small hd k), by show Sm (plD p.coefs _) b; rw [eD]; exact one_sm bp⟩, eD, len, fun _ => eC, (p.den : Rat) / ((cont p.coefs : Nat) : Int), ?_, Ps.ext fun k => ?_⟩
    · show v_Poly_init_x2 p.coefs (q_content_x2 p.coefs)
      rw [ec]; exact v
    · have h2 := hp.ne
      have h3 := ic_ne hd
      intro z
      grind
    · rw [Ps.c_mul]
      show (co (plC p.coefs (cont p.coefs : Int)) k : Rat) / (plD p.coefs (cont p.coefs : Int) : Rat) = _ * ((co p.coefs k : Rat) / p.den)
      have h2 := hp.ne
      have h3 := ic_ne hd
      have e1 := (rat_div_eq (a := co (plC p.coefs (cont p.coefs : Int)) k) (b := plD p.coefs (cont p.coefs : Int)) (c := co p.coefs k) (by rw [eD]; decide) hd).mpr (pl_cross hd k)
      rw [e1]; grind
theorem over_spec {x y : Fr} {s t : Nat} (hx : FrS x s) (hy : FrS y t) (h0 : y.num ≠ 0) (hs : s ≤ 40000000) (ht : t ≤ 40000000) : v_Fraction_over x y ∧ FrS (q_Fraction_over x y) (s + t) ∧ fv (q_Fraction_over x y) = fv x * (fv y)⁻¹ := by
  have hd : x.den * y.num ≠ 0 := Int.mul_ne_zero (by have := hx.pos; omega) h0
  obtain ⟨v, f, e⟩ := frac_mk (n := x.num * y.den) (d := x.den * y.num) (b := s + t) hd (hx.n.mulUp hy.d (Nat.le_refl _)) (hx.d.mulUp hy.n (Nat.le_refl _))
  refine ⟨⟨decide_eq_false h0, mulOk_sm hx.n hy.d (by omega), mulOk_sm hx.d hy.n (by omega), v⟩, f, ?_⟩
  show fv (q_Fraction_init (x.num * y.den) (x.den * y.num)) = _
  rw [e, Rat.intCast_mul, Rat.intCast_mul]
  have h1 := hx.ne
  have h2 := hy.ne
  have h3 := ic_ne h0
  unfold fv
  grind
theorem one_fr : v_Fraction_init 1 1 ∧ FrS (q_Fraction_init 1 1) 1 ∧ fv (q_Fraction_init 1 1) = 1 := by
  obtain ⟨v, f, e⟩ := frac_mk (n := 1) (d := 1) (b := 1) (by decide) (one_sm (by decide)) (one_sm (by decide))
  exact ⟨v, f, by rw [e, show ((1 : Int) : Rat) = 1 from rfl]; grind⟩
theorem inv_spec (hp : PoS p n b) (h0 : p.coefs ≠ []) (hb : b ≤ 30000000) : v_Fraction_init 1 1 ∧ v_Poly_lead p ∧ v_Fraction_over (q_Fraction_init 1 1) (q_Poly_lead p) ∧ FrS (q_Fraction_over (q_Fraction_init 1 1) (q_Poly_lead p)) (1 + b) ∧ fv (q_Fraction_over (q_Fraction_init 1 1) (q_Poly_lead p)) = ((pv p).cf (p.coefs.length - 1))⁻¹ := by
  obtain ⟨v1, f1, e1⟩ := one_fr
  obtain ⟨v2, f2, e2⟩ := lead_spec hp
  have hn : (q_Poly_lead p).num ≠ 0 := fun z => (pv_ne hp h0).2 (by rw [← e2]; exact (fv_zero f2).mpr z)
  obtain ⟨v3, f3, e3⟩ := over_spec f1 f2 hn (by decide) (by omega)
  refine ⟨v1, v2, v3, f3, ?_⟩
  rw [e3, e1, e2]; grind
theorem monic_spec (hp : PoS p n b) (h0 : p.coefs ≠ []) (hn : n ≤ 1000000) (hb : b ≤ 30000000) : v_monic p ∧ PoS (q_monic p) n (b + (1 + b)) ∧ pv (q_monic p) = Ps.c ((pv p).cf (p.coefs.length - 1))⁻¹ * pv p := by
  obtain ⟨v1, v2, v3, f3, e3⟩ := inv_spec hp h0 hb
  obtain ⟨v4, s4, e4⟩ := scaled_spec hp f3 hn (by omega) (by omega)
  have h1 : q_Poly_is_zero p = false := by rw [po_zero]; exact decide_eq_false (po_ne.mp h0)
  have E : q_monic p = q_Poly_scaled p (q_Fraction_over (q_Fraction_init 1 1) (q_Poly_lead p)) := by
    show (if q_Poly_is_zero p = true then p else _) = _
    rw [if_neg (by rw [h1]; decide)]; rfl
  rw [E]
  exact ⟨fun _ => ⟨v1, v2, v3, v4⟩, s4, by rw [e4, e3]⟩
theorem monic_nil (h0 : p.coefs = []) : v_monic p ∧ q_monic p = p := by
  have h1 : q_Poly_is_zero p = true := by rw [po_zero, h0]; rfl
  refine ⟨fun z => (by rw [h1] at z; cases z), ?_⟩
  show (if q_Poly_is_zero p = true then p else _) = _
  rw [if_pos h1]
theorem three_pow : ∀ d : Nat, 1 ≤ d → d + 2 ≤ 3 ^ d
  | 1, _ => by decide
  | d + 2, _ => by
    have := three_pow (d + 1) (by omega)
    have e : 3 ^ (d + 2) = 3 ^ (d + 1) * 3 := Nat.pow_succ ..
    omega
theorem weight_step {S t l l' W : Nat} (h : (S + 1) * (t + 1) * 3 ^ l ≤ W) (hl : l' < l) : (S + t * (S + 1) + 1) * (l + 1 - l' + 1) * 3 ^ l' ≤ W := by
  have e1 : S + t * (S + 1) + 1 = (S + 1) * (t + 1) := by grind
  have e2 : 3 ^ l = 3 ^ (l - l') * 3 ^ l' := by rw [← Nat.pow_add]; congr 1; omega
  have h1 := three_pow (l - l') (by omega)
  rw [e1]
  refine Nat.le_trans ?_ h
  rw [e2, ← Nat.mul_assoc]
  exact Nat.mul_le_mul_right _ (Nat.mul_le_mul_left _ (by omega))
theorem weight_one {S t l W : Nat} (h : (S + 1) * (t + 1) * 3 ^ l ≤ W) : S + t * (S + 1) + 1 ≤ W := by
  have e1 : S + t * (S + 1) + 1 = (S + 1) * (t + 1) := by grind
  rw [e1]
  exact Nat.le_trans (Nat.le_mul_of_pos_right _ (Nat.pow_pos (by decide))) h
theorem pv_Bdl (hp : PoS p n b) : Ps.Bd p.coefs.length (pv p) := fun k hk => by
  show (co p.coefs k : Rat) / p.den = 0
  rw [co_ge hk]; grind
theorem lv_dg {xs : List Int} (h : co xs (xs.length - 1) ≠ 0) : Dg (xs.length - 1) (lv xs) := ⟨fun k hk => by
  rw [lv_cf, co_ge (by omega)]; rfl, by rw [lv_cf]; exact ic_ne h⟩
theorem prim_co {P : Po} {r : Rat} (hp : PoS p n b) (r0 : r ≠ 0) (e : pv P = Ps.c r * pv p) : ∃ s : Rat, s ≠ 0 ∧ pv P = Ps.c s * lv p.coefs := by
  have h := hp.ne
  refine ⟨r * (p.den : Rat)⁻¹, fun z => ?_, ?_⟩
  · rcases Rat.mul_eq_zero.mp z with q | q
    · exact r0 q
    · have := Rat.mul_inv_cancel _ h
      rw [q, Rat.mul_zero] at this
      exact absurd this (by decide)
  · have k := cc h
    rw [e, pv_lv hp, Ps.c_mulc]
    show _ = Ps.c r * Ps.c (p.den : Rat)⁻¹ * (Ps.c (p.den : Rat) * pv p)
    have : Ps.c r * Ps.c (p.den : Rat)⁻¹ * (Ps.c (p.den : Rat) * pv p) = Ps.c r * ((Ps.c (p.den : Rat) * Ps.c (p.den : Rat)⁻¹) * pv p) := by grind
    rw [this, k]; grind
theorem Cf.init {X Y f g : Ps Rat} {L l : Nat} {r s : Rat} (r0 : r ≠ 0) (s0 : s ≠ 0) (hl : l = L) (ef : f = Ps.c r * X) (eg : g = Ps.c s * Y) : Cf X Y f g L l ∧ Cf X Y g f L l := by
  have bd : Ps.Bd (L + 1 - l) (Ps.c s) := (Ps.Bd.c s).up (by omega)
  have bz : Ps.Bd (L + 1 - l) (0 : Ps Rat) := Ps.Bd.zero.up (Nat.zero_le _)
  have m0 : r * s ≠ 0 := fun z => by
    rcases Rat.mul_eq_zero.mp z with q | q
    · exact r0 q
    · exact s0 q
  refine ⟨⟨0, Ps.c s, Ps.c r, 0, -(r * s), fun z => m0 (by grind), by rw [eg]; grind, by rw [ef]; grind, ?_, Pl.zero, Pl.c _, bd, bz⟩, ⟨Ps.c r, 0, 0, Ps.c s, r * s, m0, by rw [ef]; grind, by rw [eg]; grind, ?_, Pl.c _, Pl.zero, bz, bd⟩⟩
  · have : Ps.c (-(r * s)) = -(Ps.c r * Ps.c s) := by
      rw [← Ps.c_mulc]
      exact Ps.ext fun k => by
        rw [Ps.neg_cf, Ps.c_cf, Ps.c_cf]
        split
        · rfl
        · grind
    rw [this]; grind
  · rw [Ps.c_mulc]; grind
theorem cd_spec (hp : PoS p n b) (hq : PoS q n b) (hn : n ≤ 1000) (hW : (n + 3) * (Sg n b + 1) ≤ 30000000) (hE : Eb n b ≤ 10000000) :
    v_common_divisor p q ∧ Gcd (pv (q_common_divisor p q)) (pv p) (pv q) ∧ (p.coefs = [] → q.coefs = [] → (q_common_divisor p q).coefs = []) ∧ ((p.coefs ≠ [] ∨ q.coefs ≠ []) → PoS (q_common_divisor p q) n (2 * Eb n b + 1) ∧ (q_common_divisor p q).coefs ≠ [] ∧ (pv (q_common_divisor p q)).cf ((q_common_divisor p q).coefs.length - 1) = 1) ∧ ∃ B, PoS (q_common_divisor p q) n B := by
  obtain ⟨vp, sp, dp, lp, cp, rp, rp0, ep⟩ := prim_spec hp hp.c (by omega)
  obtain ⟨vq, sq, dq, lq, cq, rq, rq0, eq⟩ := prim_spec hq hq.c (by omega)
  have pl := hp.len
  have ql := hq.len
  have bp := (hp.c 0).pos
  have bS := Sg_ge n b
  generalize hS : Sg n b = S at *
  have hW' : (n + 1) * (S + 1) + 2 * (S + 1) ≤ 30000000 := by rw [← Nat.add_mul]; exact hW
  obtain ⟨sr, sr0, er⟩ := prim_co hp rp0 ep
  obtain ⟨tr, tr0, et⟩ := prim_co hq rq0 eq
  obtain ⟨X, Y, hX, hY, nX, nY, lX, px, qx, hC⟩ : ∃ X Y : List Int, (∀ k, Sm (co X k) b) ∧ (∀ k, Sm (co Y k) b) ∧ X.length ≤ n ∧ Y.length ≤ n ∧ (X ≠ [] → co X (X.length - 1) ≠ 0) ∧ p.coefs.length ≤ X.length ∧ q.coefs.length ≤ X.length ∧ Cf (lv X) (lv Y) (pv (q_primitive p)) (pv (q_primitive q)) X.length (max (q_primitive p).coefs.length (q_primitive q).coefs.length) := by
    rcases Nat.le_total q.coefs.length p.coefs.length with c | c
    · exact ⟨p.coefs, q.coefs, hp.c, hq.c, pl, ql, hp.last, Nat.le_refl _, c, (Cf.init sr0 tr0 (by rw [lp, lq]; omega) er et).1⟩
    · exact ⟨q.coefs, p.coefs, hq.c, hp.c, ql, pl, hq.last, c, Nat.le_refl _, (Cf.init tr0 sr0 (by rw [lp, lq]; omega) et er).2⟩
  have loop := whV_inv (t := fun (s1 : Po × Po) => (!(q_Poly_is_zero s1.2))) (Vt := fun (s1 : Po × Po) => True) (f := fun (s1 : Po × Po) => q_common_divisor_3 s1.1 s1.2) (V := fun (s1 : Po × Po) => v_common_divisor_3 s1.1 s1.2)
    (fun m s => m = s.2.coefs.length ∧ (PoS s.1 n S ∧ PoS s.2 n S ∧ s.1.coefs.length ≤ X.length ∧ s.2.coefs.length ≤ X.length ∧ Cf (lv X) (lv Y) (pv s.1) (pv s.2) X.length (max s.1.coefs.length s.2.coefs.length)) ∧ s.1.den = 1 ∧ s.2.den = 1 ∧ (s.1.coefs ≠ [] → cont s.1.coefs = 1) ∧ (s.2.coefs ≠ [] → cont s.2.coefs = 1) ∧ ∀ g, Gcd g (pv s.1) (pv s.2) → Gcd g (pv p) (pv q))
    (q_primitive q).coefs.length (s := (q_primitive p, q_primitive q)) ⟨rfl, ⟨sp.up (Nat.le_refl _) bS, sq.up (Nat.le_refl _) bS, by rw [lp]; exact px, by rw [lq]; exact qx, hC⟩, dp, dq, fun z => cp fun e => z (List.length_eq_zero_iff.mp (by rw [lp, e]; rfl)), fun z => cq fun e => z (List.length_eq_zero_iff.mp (by rw [lq, e]; rfl)), fun g hg => by
      dsimp only at hg
      rw [ep, eq] at hg
      exact (hg.cl rp0).cr rq0⟩ fun m s ⟨h1, ⟨s1, s2, x1, x2, hC⟩, d1, d2, c1, c2, hg⟩ => by
      refine ⟨trivial, ?_⟩
      obtain ⟨fi, se⟩ := s
      dsimp only at h1 s1 s2 x1 x2 hC d1 d2 c1 c2 hg ⊢
      replace s1 : PoS fi n S := s1
      replace s2 : PoS se n S := s2
      replace x1 : fi.coefs.length ≤ X.length := x1
      replace x2 : se.coefs.length ≤ X.length := x2
      replace hC : Cf (lv X) (lv Y) (pv fi) (pv se) X.length (max fi.coefs.length se.coefs.length) := hC
      by_cases h0 : se.coefs = []
      · left
        rw [po_zero, h0]; rfl
      · right
        have hl := po_ne.mp h0
        have sl := s2.len
        have fl := s1.len
        have mb : (fi.coefs.length + 1 - se.coefs.length) * (S + 1) ≤ (n + 1) * (S + 1) := Nat.mul_le_mul_right _ (by omega)
        obtain ⟨vd, Q, R, eD, sQ, sR, cR, eR⟩ := divide_sh (e := 1) (f := 1) s1 s2 hl hn hn (by rw [d1]; exact one_sm (by decide)) (by rw [d2]; exact one_sm (by decide)) (by omega)
        obtain ⟨vr, sr, dr, lr, cr, rr, rr0, er⟩ := prim_spec sR cR (by omega)
        have sRl := sR.len
        have E : q_common_divisor_3 fi se = (se, q_primitive R) := by
          show (se, q_primitive ((q_divide fi se).2)) = _
          rw [eD]
        have bQ := quo_Bd eR (pv_Bdl s1) (pv_ne s2 h0) (pv_Bd sR) sQ.pl (by omega)
        have hC2 := hC.step x1 x2 (by omega) (show R.coefs.length < se.coefs.length by omega) eR rr0 er bQ
        have cr' : (q_primitive R).coefs ≠ [] → cont (q_primitive R).coefs = 1 := fun z => cr fun e => z (List.length_eq_zero_iff.mp (by rw [lr, e]; rfl))
        have Xn : X ≠ [] := fun z => h0 (List.length_eq_zero_iff.mp (by rw [z] at x2; exact Nat.le_zero.mp x2))
        have small : ∀ k, Sm (co (q_primitive R).coefs k) S := fun k => by
          by_cases z : (q_primitive R).coefs = []
          · rw [z, co_nil]; exact Sm.zero (by omega)
          · rw [← hS]
            have lf := den_one dr
            refine eu_small (r := 1) hC2 hX hY (lv_dg (lX Xn)) (by omega) (by omega) nX nY ((pv_Bdl sr).up (by omega)) (pv_ne sr z).ne sr.pl (by decide) ?_ (cr' z) (by have := sr.len; omega) k
            rw [← lf]
            show _ = (1 : Ps Rat) * _
            grind
        refine ⟨by rw [po_zero]; show (!decide (se.coefs.length = 0)) = true; rw [decide_eq_false hl]; rfl, ⟨vd, by show v_primitive ((q_divide fi se).2); rw [eD]; exact vr⟩, R.coefs.length, by omega, ?_⟩
        show _ = (q_common_divisor_3 fi se).2.coefs.length ∧ _
        rw [E]
        refine ⟨lr.symm, ⟨s2, ⟨sr.pos, sr.cop, sr.last, by have := sr.len; show (q_primitive R).coefs.length ≤ n; omega, small, by rw [dr]; exact one_sm (by omega)⟩, x2, by show (q_primitive R).coefs.length ≤ _; omega, by show Cf _ _ _ _ _ (max se.coefs.length (q_primitive R).coefs.length); rw [lr]; exact hC2⟩, d2, dr, c2, cr', fun g hg2 => hg g ?_⟩
        · dsimp only at hg2
          rw [er] at hg2
          refine Gcd.step (r := 1) (by decide) sQ.pl ?_ (hg2.cr rr0)
          show (1 : Ps Rat) * pv fi = _
          rw [← eR]; grind
  obtain ⟨v, m, ⟨h1, ⟨s1, s2, x1, x2, hC⟩, d1, d2, c1, c2, hg⟩, hend⟩ := loop
  have E6 : q_common_divisor_6 (q_primitive p) (q_primitive q) = wh (fun (s1 : Po × Po) => (!(q_Poly_is_zero s1.2))) (fun (s1 : Po × Po) => q_common_divisor_3 s1.1 s1.2) (q_primitive p, q_primitive q) := rfl
  generalize wh (fun (s1 : Po × Po) => (!(q_Poly_is_zero s1.2))) (fun (s1 : Po × Po) => q_common_divisor_3 s1.1 s1.2) (q_primitive p, q_primitive q) = F at *
  obtain ⟨fi, se⟩ := F
  dsimp only at h1 s1 s2 x1 x2 hC d1 d2 c1 c2 hg hend
  have E : q_common_divisor p q = q_monic fi := by
    show q_monic (q_common_divisor_6 (q_primitive p) (q_primitive q)).1 = _
    rw [E6]
  have hse : se.coefs = [] := by
    rw [po_zero] at hend
    exact List.length_eq_zero_iff.mp (by simpa using hend)
  have G0 : Gcd (pv fi) (pv p) (pv q) := hg _ (by rw [pv_nil hse]; exact Gcd.zero _)
  have mk : v_monic fi → v_common_divisor p q := fun vm => ⟨vp, vq, v, by show v_monic (q_common_divisor_6 (q_primitive p) (q_primitive q)).1; rw [E6]; exact vm⟩
  by_cases h0 : fi.coefs = []
  · obtain ⟨vm, em⟩ := monic_nil h0
    rw [E, em]
    have zp : pv p = 0 := by
      obtain ⟨a, pa, e⟩ := G0.l
      rw [e, pv_nil h0]; grind
    have zq : pv q = 0 := by
      obtain ⟨a, pa, e⟩ := G0.r
      rw [e, pv_nil h0]; grind
    refine ⟨mk vm, G0, fun _ _ => h0, fun z => ?_, S, s1⟩
    rcases z with z | z
    · exact absurd ((pv_zero_iff hp).mp zp) z
    · exact absurd ((pv_zero_iff hq).mp zq) z
  · obtain ⟨vm, sm, em⟩ := monic_spec s1 h0 (by omega) (by omega)
    have dg := pv_ne s1 h0
    have r0 : ((pv fi).cf (fi.coefs.length - 1))⁻¹ ≠ 0 := fun z => dg.2 (by
      have := Rat.mul_inv_cancel _ dg.2
      rw [z, Rat.mul_zero] at this
      exact absurd this (by decide))
    have lf := den_one d1
    have key : ∀ {x : Po}, PoS x n b → x.coefs ≠ [] → Dv (pv fi) (pv x) → ∀ k, Sm (co fi.coefs k) (Eb n b) := fun {x} hx hx0 ⟨a, pa, e⟩ => by
      refine prim_size (N := x.coefs) (H := ci x.den * a) hx.len hx.c hx0 (hx.last hx0) s1.len (c1 h0) ((Pl.c _).mul pa) ?_
      rw [pv_lv hx, e, lf]; grind
    have nz : p.coefs ≠ [] ∨ q.coefs ≠ [] := Classical.byContradiction fun z => by
      have hp0 : p.coefs = [] := Classical.byContradiction fun h => z (.inl h)
      have hq0 : q.coefs = [] := Classical.byContradiction fun h => z (.inr h)
      obtain ⟨u, v, hu, hv, e⟩ := G0.bz
      exact dg.ne (by rw [e, pv_nil hp0, pv_nil hq0]; grind)
    have sz : ∀ k, Sm (co fi.coefs k) (Eb n b) := by
      rcases nz with z | z
      · exact key hp z G0.l
      · exact key hq z G0.r
    have sE : PoS fi n (Eb n b) := ⟨s1.pos, s1.cop, s1.last, s1.len, sz, by rw [d1]; exact one_sm (sz 0).pos⟩
    obtain ⟨_, sm2, _⟩ := monic_spec sE h0 (by omega) (by omega)
    have G1 := G0.cg r0
    rw [← em] at G1
    have len : (q_monic fi).coefs.length = fi.coefs.length := by
      have z : (q_monic fi).coefs ≠ [] := fun z => mul_ne (Pl.c _) s1.pl (fun h => r0 (by
        have := congrArg (fun f => f.cf 0) h
        rw [Ps.zero_cf] at this
        exact this)) dg.ne (by rw [← em]; exact pv_nil z)
      have a := pv_ne sm z
      rw [em] at a
      have c0 : Dg 0 (Ps.c ((pv fi).cf (fi.coefs.length - 1))⁻¹) := ⟨Ps.Bd.c _, r0⟩
      have := a.uniq (c0.mul dg)
      have z1 := po_ne.mp z
      have z2 := po_ne.mp h0
      omega
    rw [E]
    refine ⟨mk vm, G1, fun z1 z2 => ?_, fun _ => ⟨sm2.up (Nat.le_refl _) (by omega), fun z => ?_, ?_⟩, _, sm⟩
    · rcases nz with z | z
      · exact absurd z1 z
      · exact absurd z2 z
    · have := po_ne.mp h0
      rw [z] at len
      simp at len
      omega
    · rw [len, em, Ps.c_mul]
      exact Rat.inv_mul_cancel _ dg.2
end
end Pd
set_option maxHeartbeats 2000000
namespace Pd
open PySem PySem.Spec L2
structure QtS (x : Qt) (n b : Nat) : Prop where
  num : PoS x.num n b
  den : PoS x.den n b
  cop : Gcd 1 (pv x.num) (pv x.den)
  nz : x.den.coefs ≠ []
  mon : (pv x.den).cf (x.den.coefs.length - 1) = 1
theorem QtS.up {x : Qt} {n b m c : Nat} (h : QtS x n b) (l : n ≤ m) (k : b ≤ c) : QtS x m c := ⟨h.num.up l k, h.den.up l k, h.cop, h.nz, h.mon⟩
theorem QtS.dg {x : Qt} {n b : Nat} (h : QtS x n b) : Dg (x.den.coefs.length - 1) (pv x.den) := pv_ne h.den h.nz
theorem QtS.ne {x : Qt} {n b : Nat} (h : QtS x n b) : pv x.den ≠ 0 := h.dg.ne
theorem QtS.uniq {x y : Qt} {n b m c : Nat} (h : QtS x n b) (k : QtS y m c) (e : pv x.num * pv y.den = pv y.num * pv x.den) : x = y := by
  obtain ⟨e1, e2⟩ := low_uniq h.cop k.cop h.num.pl k.num.pl h.dg k.dg h.mon k.mon e
  have a := pv_inj h.num k.num fun j => by rw [e1]
  have b := pv_inj h.den k.den fun j => by rw [e2]
  obtain ⟨x1, x2⟩ := x
  obtain ⟨y1, y2⟩ := y
  dsimp only at a b
  rw [a, b]
section
variable {p q : Po} {n b m c : Nat}
theorem po_can {G : List Int} {u w : Int} {e f B : Nat} (hp : PoS p m B) (hG : ∀ k, Sm (co G k) e) (hl : G.length ≤ n) (hn : n ≤ 1000000) (hw : w ≠ 0) (hu : Sm u f) (hw2 : Sm w (e + f)) (h : ∀ k, (pv p).cf k = (co G k : Rat) * u / w) : PoS p n (e + f) := by
  have cc : ∀ k, co (G.map fun x => x * u) k = co G k * u := fun k => co_map (fun x => x * u) (by simp) _ k
  obtain ⟨v, s, ev⟩ := poly_mk (xs := G.map fun x => x * u) (d := w) (n := n) (b := e + f) hw (by rw [List.length_map]; exact hl) (by omega) (fun k => by rw [cc]; exact (hG k).mulUp hu (Nat.le_refl _)) hw2
  have : p = q_Poly_init (G.map fun x => x * u) w := pv_inj hp s fun k => by
    rw [h k, ev k, cc, Rat.intCast_mul]
  rw [this]; exact s
theorem c_ne {r : Rat} (h : r ≠ 0) : Ps.c r ≠ 0 := fun z => h (by
  have := congrArg (fun f => f.cf 0) z
  rw [Ps.zero_cf] at this
  exact this)
theorem inv_ne {r : Rat} (h : r ≠ 0) : r⁻¹ ≠ 0 := fun z => by
  have := Rat.mul_inv_cancel r h
  rw [z, Rat.mul_zero] at this
  exact absurd this (by decide)
theorem qt_size {x : Qt} {N D : Po} {B : Nat} (hx : QtS x n B) (hN : PoS N n b) (hD : PoS D n b) (h0 : D.coefs ≠ []) (e : pv x.num * pv D = pv N * pv x.den) (hn : n ≤ 1000000) : QtS x n (Eb n b + 2 * b) := by
  have bp := (hD.c 0).pos
  have dD := pv_ne hD h0
  have dd := hx.dg
  have size : ∀ {y M : Po}, PoS y n B → y.coefs ≠ [] → PoS M n b → M.coefs ≠ [] → Dv (pv y) (pv M) → ∃ G : List Int, G.length ≤ n ∧ (∀ k, Sm (co G k) (Eb n b)) ∧ ∃ r : Rat, r ≠ 0 ∧ ∀ k, (co G k : Rat) = r * (pv y).cf k := fun {y M} hy hy0 hM hM0 ⟨a, pa, ea⟩ => by
    obtain ⟨_, sP, dP, lP, cP, r, r0, er⟩ := prim_spec hy hy.c hn
    have lf := den_one dP
    refine ⟨(q_primitive y).coefs, sP.len, prim_size (N := M.coefs) (H := ci M.den * (Ps.c r⁻¹ * a)) hM.len hM.c hM0 (hM.last hM0) sP.len (cP hy0) ((Pl.c _).mul ((Pl.c _).mul pa)) ?_, r, r0, fun k => ?_⟩
    · have k := cc r0
      rw [pv_lv hM, ea, ← lf, er]
      have : Ps.c r * pv y * (ci M.den * (Ps.c r⁻¹ * a)) = (Ps.c r * Ps.c r⁻¹) * (ci M.den * (pv y * a)) := by grind
      rw [this, k]; grind
    · have h1 : (lv (q_primitive y).coefs).cf k = (Ps.c r * pv y).cf k := by rw [← lf, er]
      rw [lv_cf, Ps.c_mul] at h1
      exact h1
  have eb : 0 < Eb n b := by unfold Eb; omega
  -- the denominator
  have dvD : Dv (pv x.den) (pv D) := hx.cop.symm.dvd ⟨pv N, hN.pl, by rw [e]; grind⟩ hD.pl
  obtain ⟨G, lG, sG, r, r0, eG⟩ := size hx.den hx.nz hD h0 dvD
  have tG : (co G (x.den.coefs.length - 1) : Rat) = r := by rw [eG, hx.mon]; grind
  have tG0 : co G (x.den.coefs.length - 1) ≠ 0 := fun z => r0 (by rw [← tG, z]; rfl)
  have sden : PoS x.den n (Eb n b + 2 * b) := po_can (u := 1) (w := co G (x.den.coefs.length - 1)) hx.den sG lG hn tG0 (one_sm (by omega)) ((sG _).up (by omega)) fun k => by
    rw [eG, tG, show ((1 : Int) : Rat) = 1 from rfl]; grind
  refine ⟨?_, sden, hx.cop, hx.nz, hx.mon⟩
  by_cases hn0 : x.num.coefs = []
  · refine po_can (G := []) (u := 1) (w := 1) hx.num (fun k => by rw [co_nil]; exact Sm.zero eb) (by simp) hn (by decide) (one_sm (by omega)) (one_sm (by omega)) fun k => ?_
    rw [pv_nil hn0, Ps.zero_cf, co_nil, show ((0 : Int) : Rat) = 0 from rfl]; grind
  · have dn := pv_ne hx.num hn0
    have hN0 : N.coefs ≠ [] := fun z => (dn.mul dD).ne (by rw [e, pv_nil z]; grind)
    have dN := pv_ne hN hN0
    have dvN : Dv (pv x.num) (pv N) := hx.cop.dvd ⟨pv D, hD.pl, by rw [e]; grind⟩ hN.pl
    obtain ⟨P, lP, sP, s, s0, eP⟩ := size hx.num hn0 hN hN0 dvN
    have a1 := dn.mul dD
    have a2 := dN.mul dd
    rw [← e] at a2
    have deg := a1.uniq a2
    have top1 := Ps.mul_top dn.1 dD.1
    have top2 := Ps.mul_top dN.1 dd.1
    rw [← e, ← deg, top1, hx.mon] at top2
    have cN : (pv N).cf (N.coefs.length - 1) = (co N.coefs (N.coefs.length - 1) : Rat) / N.den := rfl
    have cD : (pv D).cf (D.coefs.length - 1) = (co D.coefs (D.coefs.length - 1) : Rat) / D.den := rfl
    have tP := eP (x.num.coefs.length - 1)
    have tP0 : co P (x.num.coefs.length - 1) ≠ 0 := fun z => by
      rw [z] at tP
      have : s * (pv x.num).cf (x.num.coefs.length - 1) = 0 := tP.symm
      rcases Rat.mul_eq_zero.mp this with q | q
      · exact s0 q
      · exact dn.2 q
    have lN0 := hN.last hN0
    have lD0 := hD.last h0
    refine po_can (G := P) (u := co N.coefs (N.coefs.length - 1) * D.den) (w := co P (x.num.coefs.length - 1) * (N.den * co D.coefs (D.coefs.length - 1))) hx.num sP lP hn (Int.mul_ne_zero tP0 (Int.mul_ne_zero hN.ne' lD0)) ((hN.c _).mulUp hD.d (by omega)) ((sP _).mulUp (hN.d.mulUp (hD.c _) (Nat.le_refl _)) (by omega)) fun k => ?_
    have h1 := hN.ne
    have h2 := hD.ne
    have h3 := ic_ne lN0
    have h4 := ic_ne lD0
    have h5 := ic_ne tP0
    have l0 := dn.2
    rw [cN, cD] at top2
    rw [eP k, Rat.intCast_mul, Rat.intCast_mul, Rat.intCast_mul]
    generalize (co P (x.num.coefs.length - 1) : Rat) = t at *
    generalize (pv x.num).cf (x.num.coefs.length - 1) = l at *
    generalize (pv x.num).cf k = z at *
    generalize (co N.coefs (N.coefs.length - 1) : Rat) = u1 at *
    generalize (co D.coefs (D.coefs.length - 1) : Rat) = u2 at *
    generalize (N.den : Rat) = u3 at *
    generalize (D.den : Rat) = u4 at *
    subst tP
    have e3 : u1 * u4 = l * u2 * u3 := by
      have : l * (u2 / u4) = u1 / u3 := by rw [top2]; grind
      grind
    grind
end
end Pd
set_option maxHeartbeats 2000000
namespace Pd
open PySem PySem.Spec L2
def Tr (xs : List Int) : Prop := xs ≠ [] → co xs (xs.length - 1) ≠ 0
theorem len_ne {xs : List Int} : xs ≠ [] ↔ 0 < xs.length := List.length_pos_iff.symm
theorem Tr.dg {xs : List Int} (h : Tr xs) (h0 : xs ≠ []) : Dg (xs.length - 1) (lv xs) := ⟨fun k hk => by
  have := len_ne.mp h0
  rw [lv_cf, co_ge (by omega)]; rfl, fun z => h h0 (ic_eq (by rw [← lv_cf, z]; rfl))⟩
theorem ltrim_spec (xs : List Int) : v_law_trimmed xs ∧ q_law_trimmed xs = trim xs := trim_spec
theorem trim_tr (xs : List Int) : Tr (trim xs) := fun h => by
  have hl := len_ne.mp h
  rw [co_trim, trim_len]
  rw [trim_len] at hl
  exact tsz_last xs (by omega)
theorem trim_lv (xs : List Int) : lv (trim xs) = lv xs := Ps.ext fun k => by rw [lv_cf, lv_cf, co_trim]
theorem trim_ls {xs : List Int} {n b : Nat} (h : LS xs n b) : LS (trim xs) n b := ⟨by have := h.len; have := tsz_le xs; rw [trim_len]; omega, fun k => by rw [co_trim]; exact h.c k⟩
theorem cut_init {xs : List Int} : cutT xs none (some (-(1 : Int))) = xs.take (xs.length - 1) := by
  unfold cutT
  rw [HT.sIx_none, List.drop_zero, Nat.sub_zero]
  congr 1
  show (if -(1 : Int) < 0 then (-(1 : Int) + (xs.length : Int)).toNat else min (-(1 : Int)).toNat xs.length) = _
  rw [if_pos (by decide)]; omega
theorem gt_last {xs : List Int} (h : 0 < xs.length) : gt xs (-(1 : Int)) = co xs (xs.length - 1) := by
  rw [show (-(1 : Int)) = -1 from rfl, gt_neg h]
  have := co_lt (xs := xs) (k := xs.length - 1) (by omega)
  rw [List.getElem?_eq_getElem (by omega)] at this
  exact Option.some.inj this
theorem reduced_spec {xs : List Int} (hx : Tr xs) (hl : xs.length ≤ 10000000) : v_law_reduced xs ∧ (q_law_reduced xs).length = xs.length ∧ Tr (q_law_reduced xs) ∧ (∀ k, (co (q_law_reduced xs) k).natAbs ≤ (co xs k).natAbs) ∧ (xs ≠ [] → cont (q_law_reduced xs) = 1) ∧ ∃ r : Int, r ≠ 0 ∧ lv xs = ci r * lv (q_law_reduced xs) := by
  have lp := forV_inv0 (V := fun (s1 : Int) (x2 : Int) => v_law_reduced_2 xs s1 x2) (f := fun (s1 : Int) (x2 : Int) => q_law_reduced_2 xs s1 x2) (xs := xs) (s := (0 : Int)) (fun _ _ => True) trivial fun i x s _ _ => ⟨(divisor_spec s x).1, trivial⟩
  have e3 : q_law_reduced_3 xs 0 = (cont xs : Int) := by
    have : (fun (s1 : Int) (x2 : Int) => q_law_reduced_2 xs s1 x2) = fun s1 x2 => (Int.gcd s1 x2 : Int) := funext fun a => funext fun b => (divisor_spec a b).2
    show xs.foldl (fun (s1 : Int) (x2 : Int) => q_law_reduced_2 xs s1 x2) 0 = _
    rw [this]; exact foldl_int xs 0
  by_cases h0 : xs = []
  · have z : cont xs = 0 := by rw [h0]; rfl
    have E : q_law_reduced xs = [] := by
      show (if decide (q_law_reduced_3 xs 0 = 0) = true then [] else q_law_reduced_6 xs (q_law_reduced_3 xs 0)) = []
      rw [e3, z]; rfl
    rw [E]
    refine ⟨⟨lp.1, fun w => ?_⟩, by rw [h0], fun w => absurd rfl w, fun k => by rw [co_nil]; simp, fun w => absurd h0 w, 1, by decide, by rw [h0, lv_nil]; grind⟩
    have := of_decide_eq_false w
    exact absurd (by rw [e3, z]; rfl) this
  · have hp := len_ne.mp h0
    have hlast := hx h0
    have gpos : 0 < cont xs := Nat.pos_of_ne_zero fun z => by
      have := cont_dvd (List.mem_of_getElem? (co_lt (xs := xs) (k := xs.length - 1) (by omega)))
      rw [z] at this
      exact hlast (Int.zero_dvd.mp (by simpa using this))
    have hd : ((cont xs : Nat) : Int) ≠ 0 := by omega
    have E : q_law_reduced xs = xs.map fun (x5 : Int) => (Int.fdiv x5 (cont xs : Int)) := by
      show (if decide (q_law_reduced_3 xs 0 = 0) = true then [] else xs.map fun (x5 : Int) => (Int.fdiv x5 (q_law_reduced_3 xs 0))) = _
      rw [e3, if_neg (by simpa using hd)]
    have cm : ∀ k, co (q_law_reduced xs) k = (co xs k).fdiv (cont xs : Int) := fun k => by rw [E]; exact co_map (fun x => Int.fdiv x (cont xs : Int)) (by simp) xs k
    have mul : ∀ k, co (q_law_reduced xs) k * (cont xs : Int) = co xs k := fun k => by
      rw [cm]
      by_cases h : k < xs.length
      · exact fdiv_mul_of_dvd hd (cont_dvd (List.mem_of_getElem? (co_lt h)))
      · rw [co_ge (by omega)]; simp
    have len : (q_law_reduced xs).length = xs.length := by rw [E, List.length_map]
    refine ⟨⟨lp.1, fun _ => ⟨fun _ _ => by rw [e3]; exact hd, line_le (by omega)⟩⟩, len, fun _ z => ?_, fun k => ?_, fun _ => ?_, (cont xs : Int), hd, Ps.ext fun k => ?_⟩
    · rw [len] at z
      exact hlast (by rw [← mul, z, Int.zero_mul])
    · rw [← mul k, Int.natAbs_mul]
      exact Nat.le_mul_of_pos_right _ (by omega)
    · have h2 : (q_law_reduced xs).map (· * (cont xs : Int)) = xs := co_ext (by rw [List.length_map, len]) fun k => by
        rw [co_map (fun x => x * (cont xs : Int)) (by simp)]; exact mul k
      have h3 := cont_mul (q_law_reduced xs) (cont xs : Int)
      rw [h2, Int.natAbs_natCast] at h3
      exact Nat.eq_of_mul_eq_mul_right gpos (by omega)
    · rw [Ps.c_mul, lv_cf, lv_cf, ← mul k, Rat.intCast_mul]; grind
section
variable {p q : List Int} {n b m c : Nat}
theorem rest_step {rest : List Int} {j B N : Nat} (hq : LS q m c) (h0 : q ≠ []) (hr : LS rest N B) (hj : rest.length = j + q.length) (hN : N ≤ 1000000) (hm : m ≤ 1000000) (hB : B + c ≤ 40000000) :
    v_law_rest_3 q rest ∧ (q_law_rest_3 q rest).length = rest.length - 1 ∧ (∀ k, Sm (co (q_law_rest_3 q rest) k) (B + c + 1)) ∧ ci (co q (q.length - 1)) * lv rest = (ci (co rest (rest.length - 1)) * Ps.Xp j) * lv q + lv (q_law_rest_3 q rest) := by
  have ql := hq.len
  have rl := hr.len
  have qp := len_ne.mp h0
  have g1 := gt_last qp
  have g2 : gt rest (-(1 : Int)) = co rest (rest.length - 1) := gt_last (by omega)
  have i1 : inR q (-(1 : Int)) := inR_neg qp
  have i2 : inR rest (-(1 : Int)) := inR_neg (by omega)
  generalize hlead : co q (q.length - 1) = lead at g1 ⊢
  generalize htop : co rest (rest.length - 1) = top at g2 ⊢
  have sl : Sm lead c := by rw [← hlead]; exact hq.c _
  have st : Sm top B := by rw [← htop]; exact hr.c _
  have ej : (rest.length : Int) - (q.length : Int) = (j : Int) := by omega
  have cr : ∀ k, co (rest.map fun (x2 : Int) => (lead * x2)) k = lead * co rest k := fun k => co_map (fun x => lead * x) (by simp) _ k
  have inner := forV_inv0 (V := fun (s4 : (List Int)) (x5 : Int) => v_law_rest_7 q s4 top (j : Int) x5) (f := fun (s4 : (List Int)) (x5 : Int) => q_law_rest_7 q s4 top (j : Int) x5) (xs := rngT 0 (q.length : Int)) (s := rest.map fun (x2 : Int) => (lead * x2))
    (fun i r => (rest.map fun (x2 : Int) => (lead * x2)).length = r.length ∧ ∀ k, co r k = co (rest.map fun (x2 : Int) => (lead * x2)) k + (if j ≤ k ∧ k < j + i then (-top) * co q (k - j) else 0)) ⟨rfl, fun k => by rw [if_neg (by omega)]; omega⟩ fun i x r hx ⟨h1, h2⟩ => by
      obtain ⟨hi, e⟩ := rngT0_get hx
      subst e
      have h1' := h1
      rw [List.length_map] at h1'
      obtain ⟨t1, t2⟩ := row_step h1 h2 (by omega : j + i < r.length)
      have iR : inR r ((j : Int) + (i : Int)) := by unfold inR; omega
      have k2 : gt q (i : Int) = co q i := gt_co _ _
      have e : q_law_rest_7 q r top (j : Int) (i : Int) = setT r ((j : Int) + (i : Int)) (gt r ((j : Int) + (i : Int)) + (-top) * co q i) := by
        unfold q_law_rest_7; rw [k2]; congr 1; rw [Int.neg_mul]; omega
      refine ⟨⟨iR, inR_nat hi, by rw [k2]; exact mulOk_sm st (hq.c i) (by omega), iR⟩, ?_⟩
      show _ = (q_law_rest_7 q r top (j : Int) (i : Int)).length ∧ ∀ k, co (q_law_rest_7 q r top (j : Int) (i : Int)) k = _
      rw [e]
      exact ⟨h1.trans t1.symm, t2⟩
  rw [rngT0_length] at inner
  obtain ⟨vi, u1, u2⟩ := inner
  have E : q_law_rest_3 q rest = cutT ((rngT 0 (q.length : Int)).foldl (fun (s4 : (List Int)) (x5 : Int) => q_law_rest_7 q s4 top (j : Int) x5) (rest.map fun (x2 : Int) => (lead * x2))) none (some (-(1 : Int))) := by
    unfold q_law_rest_3 q_law_rest_4 q_law_rest_5
    rw [g2, g1, ej]; rfl
  have V : v_law_rest_3 q rest := by
    refine ⟨i2, ?_⟩
    unfold v_law_rest_4 v_law_rest_5
    rw [g2, g1, ej]
    exact ⟨fun x hx => ⟨i1, mulOk_sm sl (hr.mem hx) (by omega)⟩, line_le (by omega), rOk_nat (by omega), vi⟩
  generalize (rngT 0 (q.length : Int)).foldl (fun (s4 : (List Int)) (x5 : Int) => q_law_rest_7 q s4 top (j : Int) x5) (rest.map fun (x2 : Int) => (lead * x2)) = R at u1 u2 E
  rw [List.length_map] at u1
  have i3 : ∀ k, co R k = lead * co rest k + (if j ≤ k then (-top) * co q (k - j) else 0) := fun k => by
    rw [u2 k, cr]; exact row_end k
  have lR : lv R = ci lead * lv rest + ci (-top) * (Ps.Xp j * lv q) := Ps.ext fun k => by
    rw [Ps.add_cf, Ps.c_mul, Ps.c_mul, Ps.Xp_mul, lv_cf, lv_cf, i3 k, Rat.intCast_add, Rat.intCast_mul]
    by_cases h : j ≤ k
    · rw [if_pos h, if_pos h, Rat.intCast_mul, lv_cf]
    · rw [if_neg h, if_neg h, show ((0 : Int) : Rat) = 0 from rfl]; grind
  rw [cut_init] at E
  have z : co R (R.length - 1) = 0 := by
    rw [i3, ← u1, if_pos (by omega), htop, show rest.length - 1 - j = q.length - 1 by omega, hlead, Int.neg_mul, Int.mul_comm]; omega
  have eR : ∀ k, co (q_law_rest_3 q rest) k = co R k := fun k => by
    rw [E, co_take]
    by_cases h : k < R.length - 1
    · rw [if_pos h]
    · rw [if_neg h]
      by_cases h2 : k = R.length - 1
      · rw [h2, z]
      · rw [co_ge (by omega)]
  refine ⟨V, by rw [E, List.length_take]; omega, fun k => ?_, ?_⟩
  · rw [eR, i3]
    refine (sl.mulUp (hr.c k) (Nat.le_refl _)).addUp2 (b := c + B) ?_ (by omega) (by omega)
    split
    · exact st.negUp.mulUp (hq.c _) (by omega)
    · exact Sm.zero (by have := st.pos; omega)
  · have : lv (q_law_rest_3 q rest) = lv R := Ps.ext fun k => by rw [lv_cf, lv_cf, eR]
    rw [this, lR, ci_neg]; grind
theorem Pl.Xp (j : Nat) : Pl (Ps.Xp j) := ⟨j + 1, fun k hk => by
  show (if k = j then (1 : Rat) else 0) = 0
  rw [if_neg (by omega)]⟩
theorem rest_spec (hp : LS p n b) (hq : LS q m c) (h0 : q ≠ []) (hq1 : Tr q) (hn : n ≤ 1000000) (hm : m ≤ 1000000) (hb : b + (p.length + 1 - q.length) * (c + 1) + c ≤ 40000000) :
    v_law_rest p q ∧ Tr (q_law_rest p q) ∧ (q_law_rest p q).length < q.length ∧ (∀ k, Sm (co (q_law_rest p q) k) (b + (p.length + 1 - q.length) * (c + 1))) ∧ ∃ (a : Int) (Q : Ps Rat), a ≠ 0 ∧ Pl Q ∧ ci a * lv p = Q * lv q + lv (q_law_rest p q) := by
  have ql := hq.len
  have pl := hp.len
  have qp := len_ne.mp h0
  generalize hs : p.length + 1 - q.length = s at hb ⊢
  have lp := forV_inv0 (V := fun (s7 : (List Int)) (x8 : Int) => v_law_rest_2 q s7) (f := fun (s7 : (List Int)) (x8 : Int) => q_law_rest_2 q s7) (xs := rngT 0 (p.length : Int)) (s := p)
    (fun i r => r.length = p.length - min i s ∧ (∀ k, Sm (co r k) (b + (min i s) * (c + 1))) ∧ ∃ (a : Int) (Q : Ps Rat), a ≠ 0 ∧ Pl Q ∧ ci a * lv p = Q * lv q + lv r) ⟨by rw [Nat.min_eq_left (by omega)]; rfl, fun k => (hp.c k).up (by omega), 1, 0, by decide, Pl.zero, by rw [ci_one]; grind⟩ fun i x r hx ⟨h1, h2, a, Q, ha, hQ, e⟩ => by
      obtain ⟨hi, -⟩ := rngT0_get hx
      have m1 : (min i s) * (c + 1) ≤ s * (c + 1) := Nat.mul_le_mul_right _ (by omega)
      by_cases hc : i < s
      · have hd : decide ((r.length : Int) ≥ (q.length : Int)) = true := decide_eq_true (by omega)
        rw [Nat.min_eq_left (by omega)] at h1 h2 m1
        obtain ⟨v, l, z, e2⟩ := rest_step (j := r.length - q.length) (N := n) (B := b + i * (c + 1)) hq h0 ⟨by omega, h2⟩ (by omega) (by omega) (by omega) (by omega)
        refine ⟨fun _ => v, ?_⟩
        show (q_law_rest_2 q r).length = _ ∧ (∀ k, Sm (co (q_law_rest_2 q r) k) _) ∧ ∃ (a : Int) (Q : Ps Rat), a ≠ 0 ∧ Pl Q ∧ ci a * lv p = Q * lv q + lv (q_law_rest_2 q r)
        have E : q_law_rest_2 q r = q_law_rest_3 q r := by
          unfold q_law_rest_2; rw [if_pos hd]
        have b3 : (i + 1) * (c + 1) = i * (c + 1) + (c + 1) := Nat.succ_mul _ _
        rw [E, Nat.min_eq_left (by omega : i + 1 ≤ s), b3]
        refine ⟨by omega, fun k => (z k).up (by omega), co q (q.length - 1) * a, ci (co q (q.length - 1)) * Q + ci (co r (r.length - 1)) * Ps.Xp (r.length - q.length), Int.mul_ne_zero (hq1 h0) ha, ((Pl.c _).mul hQ).add ((Pl.c _).mul (Pl.Xp _)), ?_⟩
        rw [ci_mul]
        have : ci (co q (q.length - 1)) * ci a * lv p = ci (co q (q.length - 1)) * (ci a * lv p) := by grind
        rw [this, e]
        have e4 : ci (co q (q.length - 1)) * (Q * lv q + lv r) = ci (co q (q.length - 1)) * Q * lv q + ci (co q (q.length - 1)) * lv r := by grind
        rw [e4, e2]; grind
      · have hd : decide ((r.length : Int) ≥ (q.length : Int)) = false := decide_eq_false (by omega)
        refine ⟨fun w => (by rw [hd] at w; cases w), ?_⟩
        show (q_law_rest_2 q r).length = _ ∧ (∀ k, Sm (co (q_law_rest_2 q r) k) _) ∧ ∃ (a : Int) (Q : Ps Rat), a ≠ 0 ∧ Pl Q ∧ ci a * lv p = Q * lv q + lv (q_law_rest_2 q r)
        have E : q_law_rest_2 q r = r := by
          unfold q_law_rest_2; rw [if_neg (by rw [hd]; decide)]
        rw [E, show min (i + 1) s = min i s by omega]
        exact ⟨h1, h2, a, Q, ha, hQ, e⟩
  rw [rngT0_length, show min p.length s = s by omega] at lp
  obtain ⟨v, h1, h2, a, Q, ha, hQ, e⟩ := lp
  have E10 : q_law_rest_10 p q p = (rngT 0 (p.length : Int)).foldl (fun (s7 : (List Int)) (x8 : Int) => q_law_rest_2 q s7) p := rfl
  generalize (rngT 0 (p.length : Int)).foldl (fun (s7 : (List Int)) (x8 : Int) => q_law_rest_2 q s7) p = R at *
  obtain ⟨vt, et⟩ := ltrim_spec R
  have E : q_law_rest p q = trim R := by
    show q_law_trimmed (q_law_rest_10 p q p) = _
    rw [E10, et]
  rw [E]
  refine ⟨⟨rOk_nat (by omega), v, by show v_law_trimmed (q_law_rest_10 p q p); rw [E10]; exact vt⟩, trim_tr R, ?_, fun k => by rw [co_trim]; exact h2 k, a, Q, ha, hQ, by rw [trim_lv]; exact e⟩
  have := tsz_le R
  rw [trim_len]; omega
theorem Gcd.lz {g : Ps Rat} {xs : List Int} {r : Int} {f q : Ps Rat} (hr : r ≠ 0) (e : f = ci r * lv xs) (h : Gcd g (lv xs) q) : Gcd g f q := by
  rw [e]
  refine Gcd.cl (inv_ne (ic_ne hr)) ?_
  have k := cc (ic_ne hr)
  have : Ps.c (r : Rat)⁻¹ * (ci r * lv xs) = (Ps.c (r : Rat) * Ps.c (r : Rat)⁻¹) * lv xs := by grind
  rw [this, k]
  have : (1 : Ps Rat) * lv xs = lv xs := by grind
  rw [this]; exact h
theorem degree_spec (hp : LS p n b) (hq : LS q n b) (hn : n ≤ 1000) (hW : (b + 1) * (n + 2) * 3 ^ n ≤ 10000000) :
    v_law_degree p q ∧ ∃ F : List Int, Tr F ∧ Gcd (lv F) (lv p) (lv q) ∧ q_law_degree p q = (F.length : Int) - 1 := by
  obtain ⟨vtp, etp⟩ := ltrim_spec p
  obtain ⟨vtq, etq⟩ := ltrim_spec q
  have tlp := trim_ls hp
  have tlq := trim_ls hq
  have lp1 := tlp.len
  have lq1 := tlq.len
  have lp0 := hp.len
  have lq0 := hq.len
  have tq := tsz_le q
  have tq2 := trim_len q
  obtain ⟨vp, np, rp, sp, _, a, ha, ea⟩ := reduced_spec (trim_tr p) (by omega)
  obtain ⟨vq, nq, rq, sq, _, c, hc, ec⟩ := reduced_spec (trim_tr q) (by omega)
  rw [trim_lv] at ea ec
  have w0 : (b + 1) * ((q_law_reduced (trim p)).length + 1 - (q_law_reduced (trim q)).length + 1) * 3 ^ (q_law_reduced (trim q)).length ≤ 10000000 := by
    refine Nat.le_trans ?_ hW
    refine Nat.mul_le_mul (Nat.mul_le_mul_left _ (by omega)) (Nat.pow_le_pow_right (by decide) (by omega))
  have eN : ((p.length : Int) + (q.length : Int)) + (2 : Int) = ((p.length + q.length + 2 : Nat) : Int) := by omega
  have loop := forV_inv0 (V := fun (s3 : (List Int) × (List Int)) (x4 : Int) => v_law_degree_3 s3.1 s3.2) (f := fun (s3 : (List Int) × (List Int)) (x4 : Int) => q_law_degree_3 s3.1 s3.2) (xs := rngT 0 ((p.length + q.length + 2 : Nat) : Int)) (s := (q_law_reduced (trim p), q_law_reduced (trim q)))
    (fun i s => s.2.length + i ≤ (q_law_reduced (trim q)).length + (if s.2.length = 0 then i else 0) ∧ (∃ S, LS s.1 n S ∧ LS s.2 n S ∧ (S + 1) * (s.1.length + 1 - s.2.length + 1) * 3 ^ s.2.length ≤ 10000000) ∧ Tr s.1 ∧ Tr s.2 ∧ ∀ g, Gcd g (lv s.1) (lv s.2) → Gcd g (lv p) (lv q))
    ⟨by dsimp only; split <;> omega, ⟨b, ⟨show (q_law_reduced (trim p)).length ≤ n by omega, fun k => (tlp.c k).le (sp k)⟩, ⟨show (q_law_reduced (trim q)).length ≤ n by omega, fun k => (tlq.c k).le (sq k)⟩, w0⟩, rp, rq, fun g hg => (Gcd.lz hc ec ((Gcd.lz ha ea hg).symm)).symm⟩ fun i x s hx ⟨h1, ⟨S, s1, s2, w⟩, t1, t2, hg⟩ => by
      obtain ⟨fi, se⟩ := s
      dsimp only at h1 s1 s2 w t1 t2 hg
      by_cases h0 : se = []
      · subst h0
        refine ⟨fun z => absurd (of_decide_eq_true z) (by simp), ?_⟩
        have E : q_law_degree_3 fi [] = (fi, []) := rfl
        show (q_law_degree_3 fi []).2.length + (i + 1) ≤ _ ∧ _
        rw [E]
        exact ⟨by simp, ⟨S, s1, s2, w⟩, t1, t2, hg⟩
      · have sp0 := len_ne.mp h0
        rw [if_neg (by omega)] at h1
        have wo := weight_one w
        have sl := s2.len
        have fl := s1.len
        obtain ⟨v, tR, lR, cR, a2, Q, ha2, hQ, eR⟩ := rest_spec s1 s2 h0 t2 (by omega) (by omega) (by omega)
        obtain ⟨v2, n2, r2, z2, _, a3, ha3, e3⟩ := reduced_spec tR (by omega)
        have hd : decide ((se.length : Int) > (0 : Int)) = true := decide_eq_true (by omega)
        have E : q_law_degree_3 fi se = (se, q_law_reduced (q_law_rest fi se)) := by
          unfold q_law_degree_3; rw [if_pos hd]; rfl
        refine ⟨fun _ => ⟨v, v2⟩, ?_⟩
        show (q_law_degree_3 fi se).2.length + (i + 1) ≤ _ ∧ _
        rw [E]
        refine ⟨by dsimp only; split <;> omega, ⟨_, s2.up (Nat.le_refl _) (Nat.le_add_right S _), ⟨show (q_law_reduced (q_law_rest fi se)).length ≤ n by omega, fun k => (cR k).le (z2 k)⟩, ?_⟩, t2, r2, fun g hg2 => hg g ?_⟩
        · show (_ + 1) * (se.length + 1 - (q_law_reduced (q_law_rest fi se)).length + 1) * 3 ^ (q_law_reduced (q_law_rest fi se)).length ≤ 10000000
          rw [n2]
          exact weight_step w (by omega)
        · dsimp only at hg2
          exact Gcd.step (r := (a2 : Rat)) (ic_ne ha2) hQ eR (Gcd.lz ha3 e3 hg2.symm).symm
  rw [rngT0_length] at loop
  obtain ⟨v, h1, ⟨S, s1, s2, w⟩, t1, t2, hg⟩ := loop
  have E7 : q_law_degree_7 p q (q_law_reduced (trim p)) (q_law_reduced (trim q)) = (rngT 0 ((p.length + q.length + 2 : Nat) : Int)).foldl (fun (s3 : (List Int) × (List Int)) (x4 : Int) => q_law_degree_3 s3.1 s3.2) (q_law_reduced (trim p), q_law_reduced (trim q)) := by
    unfold q_law_degree_7; rw [eN]
  generalize (rngT 0 ((p.length + q.length + 2 : Nat) : Int)).foldl (fun (s3 : (List Int) × (List Int)) (x4 : Int) => q_law_degree_3 s3.1 s3.2) (q_law_reduced (trim p), q_law_reduced (trim q)) = F at *
  obtain ⟨fi, se⟩ := F
  dsimp only at h1 s1 s2 w t1 t2 hg
  have hse : se = [] := by
    by_cases z : se.length = 0
    · exact List.length_eq_zero_iff.mp z
    · rw [if_neg z] at h1; omega
  refine ⟨⟨vtp, by rw [etp]; exact vp, ?_⟩, fi, t1, hg _ (by rw [hse, lv_nil]; exact Gcd.zero _), ?_⟩
  · rw [etp]
    refine ⟨vtq, by rw [etq]; exact vq, ?_⟩
    rw [etq]
    unfold v_law_degree_2
    rw [eN]
    exact ⟨rOk_nat (by omega), v⟩
  · show ((q_law_degree_7 p q (q_law_reduced (q_law_trimmed p)) (q_law_reduced (q_law_trimmed q))).1.length : Int) - 1 = _
    rw [etp, etq, E7]
end
end Pd
set_option maxHeartbeats 2000000
namespace Pd
open PySem PySem.Spec L2
section
variable {A B C D : List Int} {n b : Nat}
end
structure Qk (n b : Nat) : Prop where
  len : n ≤ 1000
  w : (n + 3) * (Sg n b + 1) ≤ 30000000
  e : b + (n + 1) * (2 * Eb n b + 2) + 1 + b + (2 * Eb n b + 1) ≤ 10000000
theorem Qk.b {n b : Nat} (h : Qk n b) : b ≤ 10000000 := by have := h.e; omega
section
variable {x y : Qt} {n b : Nat}
end
theorem qeq_spec {x y : Qt} {n b m c : Nat} (hx : QtS x n b) (hy : QtS y m c) : q_Quotient_eq x y = true ↔ pv x.num * pv y.den = pv y.num * pv x.den := by
  show (true && ((q_Poly_eq x.num y.num) && (q_Poly_eq x.den y.den))) = true ↔ _
  rw [Bool.true_and, Bool.and_eq_true, poly_eq hx.num hy.num, poly_eq hx.den hy.den]
  constructor
  · rintro ⟨h1, h2⟩
    rw [h1, h2]
  · intro h
    have := hx.uniq hy h
    subst this
    exact ⟨rfl, rfl⟩
end Pd
set_option maxHeartbeats 2000000
namespace Pd
open PySem PySem.Spec L2
theorem rt_count : ∀ (n : Nat) (xs rs : List Int), xs.length ≤ n → (∃ k, co xs k ≠ 0) → rs.Nodup → (∀ r ∈ rs, hz r xs = 0) → rs.length < n
  | 0, xs, rs, h, ⟨k, hk⟩, _, _ => absurd (co_ge (by omega)) hk
  | n + 1, xs, [], _, _, _, _ => by simp
  | n + 1, xs, M :: rs, h, ⟨k, hk⟩, nd, hr => by
    have hM := hr M List.mem_cons_self
    have nd' := List.nodup_cons.mp nd
    have ih := rt_count n (sdv M xs) rs (by rw [sdv_len]; omega) (Classical.byContradiction fun z => hk (by
      have zz : ∀ j, co (sdv M xs) j = 0 := fun j => Classical.byContradiction fun q => z ⟨j, q⟩
      rw [sdv_co M xs k, zz k]
      cases k with
      | zero => show hz M xs - M * 0 = 0; rw [hM]; omega
      | succ k => show co (sdv M xs) k - M * 0 = 0; rw [zz k]; omega)) nd'.2 fun r hrr => by
      have e := sdv_hz M r xs
      rw [hr r (List.mem_cons_of_mem _ hrr), hM] at e
      have ne : r - M ≠ 0 := fun z => nd'.1 (by
        have : r = M := by omega
        rw [← this]; exact hrr)
      rcases Int.mul_eq_zero.mp (show (r - M) * hz r (sdv M xs) = 0 by omega) with q | q
      · exact absurd q ne
      · exact q
    rw [List.length_cons]; omega
theorem RtsIn.count {p : Po} {n b : Nat} {lo hi : Int} {xs : List Int} (h : RtsIn (Rt p) lo hi xs) (hp : PoS p n b) (h0 : p.coefs ≠ []) : xs.length < n :=
  rt_count n p.coefs xs hp.len ⟨_, hp.last h0⟩ (h.pw.imp fun q => Int.ne_of_lt q) fun r hr => rt_hz.mp ((h.mem r).mp hr).2.2
section
variable {p : Po} {n b c : Nat}
end
end Pd
set_option maxHeartbeats 2000000
namespace Pd
open PySem PySem.Spec L2
noncomputable def pev (f : Ps Rat) (x : Rat) : Rat := open Classical in if h : Pl f then Ps.ev (Classical.choose h) f x else 0
theorem pev_eq {f : Ps Rat} {n : Nat} (h : Ps.Bd n f) (x : Rat) : pev f x = Ps.ev n f x := by
  have hp : Pl f := ⟨n, h⟩
  have e : pev f x = Ps.ev (Classical.choose hp) f x := by unfold pev; rw [dif_pos hp]
  have c := Classical.choose_spec hp
  rw [e, ← Ps.ev_up (m := max (Classical.choose hp) n) x c (by omega), Ps.ev_up (n := n) x h (by omega)]
theorem pev_add {f g : Ps Rat} (hf : Pl f) (hg : Pl g) (x : Rat) : pev (f + g) x = pev f x + pev g x := by
  obtain ⟨n, a⟩ := hf
  obtain ⟨m, b⟩ := hg
  have a' := a.up (show n ≤ max n m by omega)
  have b' := b.up (show m ≤ max n m by omega)
  rw [pev_eq a', pev_eq b', pev_eq (a'.add b'), Ps.ev_add]
theorem pev_mul {f g : Ps Rat} (hf : Pl f) (hg : Pl g) (x : Rat) : pev (f * g) x = pev f x * pev g x := by
  obtain ⟨n, a⟩ := hf
  obtain ⟨m, b⟩ := hg
  rw [pev_eq a, pev_eq b, pev_eq ((a.mul b).up (show n + m - 1 ≤ n + m by omega)), Ps.ev_mul x a b (Nat.le_refl _)]
theorem pev_c (r x : Rat) : pev (Ps.c r) x = r := by rw [pev_eq (Ps.Bd.c r)]; exact Ps.ev_c 0 r x
theorem pev_lv (xs : List Int) (k : Int) : pev (lv xs) (k : Rat) = (hz k xs : Rat) := by
  rw [pev_eq (lv_Bd (Nat.le_refl _)), hz_ev]
theorem pev_zero (x : Rat) : pev 0 x = 0 := pev_c 0 x
end Pd
set_option maxHeartbeats 2000000
namespace Pd
open PySem PySem.Spec L2
def Nz (s : Int) (xs : List Int) : Prop := ∀ x : Int, s ≤ x → hz x xs ≠ 0
theorem Nz.mul {s : Int} {xs ys zs : List Int} (e : lv zs = lv xs * lv ys) (h : Nz s xs) (k : Nz s ys) : Nz s zs := fun x hx => by
  rw [hz_prod e]
  exact Int.mul_ne_zero (h x hx) (k x hx)
structure Parts (P : List KV) (s f e : Int) (N D : List Int) : Prop where
  eq : P = [KV.i s, KV.i f, KV.i e, KV.l N, KV.l D]
  hs : -4 ≤ s ∧ s ≤ 4
  hf : -6 ≤ f ∧ f ≤ 6
  hf0 : f ≠ 0
  he : 1 ≤ e ∧ e ≤ 4
  lN : LS N 7 24
  lD : LS D 7 24
  nN : Nz s N
  nD : Nz s D
  bN : Ps.Bd 5 (Pd.lv N)
  bD : Ps.Bd 5 (Pd.lv D)
  aN : absS N ≤ 1444
  aD : absS D ≤ 1444
section
variable {P : List KV} {s f e : Int} {N D : List Int}
theorem Parts.g0 (h : Parts P s f e N D) : inR P (0 : Int) ∧ gt P (0 : Int) = KV.i s := by
  rw [h.eq]
  exact ⟨inR_nat (k := 0) (by simp), rfl⟩
theorem Parts.g1 (h : Parts P s f e N D) : inR P (1 : Int) ∧ gt P (1 : Int) = KV.i f := by
  rw [h.eq]
  exact ⟨inR_nat (k := 1) (by simp), rfl⟩
theorem Parts.g2 (h : Parts P s f e N D) : inR P (2 : Int) ∧ gt P (2 : Int) = KV.i e := by
  rw [h.eq]
  exact ⟨inR_nat (k := 2) (by simp), rfl⟩
theorem Parts.g3 (h : Parts P s f e N D) : inR P (3 : Int) ∧ gt P (3 : Int) = KV.l N := by
  rw [h.eq]
  exact ⟨inR_nat (k := 3) (by simp), rfl⟩
theorem Nz.pev {s : Int} {xs : List Int} (h : Nz s xs) {k : Int} (hk : s ≤ k) : pev (lv xs) (k : Rat) ≠ 0 := by
  rw [pev_lv]; exact ic_ne (h k hk)
theorem Nz.lv {s : Int} {xs : List Int} (h : Nz s xs) : lv xs ≠ 0 := fun z => h.pev (Int.le_refl s) (by rw [z, pev_zero])
end
end Pd
set_option maxHeartbeats 2000000
namespace Pd
open PySem PySem.Spec L2
end Pd
set_option maxHeartbeats 2000000
namespace Pd
open PySem PySem.Spec L2
theorem hz_big {xs : List Int} (h0 : xs ≠ []) (hl : co xs (xs.length - 1) ≠ 0) {h : Int} (hh : (absS xs : Int) < h) : hz h xs ≠ 0 := by
  have s := St.big h0 hl hh
  rw [← hz_shc]
  rcases s with ⟨s, _⟩ | ⟨s, _⟩ <;> omega
theorem zero_of_pev {F : Ps Rat} (hF : Pl F) (z : ∀ k : Int, pev F (k : Rat) = 0) : F = 0 := Classical.byContradiction fun ne => by
  obtain ⟨n, hn⟩ := hF
  obtain ⟨c, ys, hc, e⟩ := clear_den n F hn
  have c0 : ci (c : Int) ≠ 0 := c_ne (ic_ne (by omega))
  have l0 : lv ys ≠ 0 := by rw [← e]; exact mul_ne (Pl.c _) ⟨n, hn⟩ c0 ne
  obtain ⟨n1, n2, n3⟩ := trim_nz l0
  have et : lv (trim ys) = lv ys := Ps.ext fun k => by rw [lv_cf, lv_cf, co_trim]
  refine hz_big n1 n2 (h := (absS (trim ys) : Int) + 1) (by omega) (ic_eq ?_)
  rw [← pev_lv, et, ← e, pev_mul (Pl.c _) ⟨n, hn⟩, z, Rat.mul_zero]; rfl
theorem pev_neg {f : Ps Rat} (hf : Pl f) (x : Rat) : pev (-f) x = -pev f x := by
  have h : pev (f + -f) x = pev f x + pev (-f) x := pev_add hf hf.neg x
  rw [show f + -f = 0 by grind, pev_zero] at h
  grind
theorem pev_sub {f g : Ps Rat} (hf : Pl f) (hg : Pl g) (x : Rat) : pev (f - g) x = pev f x - pev g x := by
  rw [show f - g = f + -g by grind, pev_add hf hg.neg, pev_neg hg]; grind
theorem ev_ext {F G : Ps Rat} (hF : Pl F) (hG : Pl G) (e : ∀ k : Int, pev F (k : Rat) = pev G (k : Rat)) : F = G := by
  have h := zero_of_pev (hF.sub hG) fun k => by rw [pev_sub hF hG, e]; grind
  have : F = (F - G) + G := by grind
  rw [this, h]; grind
def Shd (s : Int) (f g : Ps Rat) : Prop := ∀ k : Int, pev g (k : Rat) = pev f ((s + k : Int) : Rat)
theorem Shd.mul {s : Int} {f g f' g' : Ps Rat} (hf : Pl f) (hg : Pl g) (hf' : Pl f') (hg' : Pl g') (a : Shd s f f') (b : Shd s g g') : Shd s (f * g) (f' * g') := fun k => by rw [pev_mul hf' hg', pev_mul hf hg, a k, b k]
theorem Shd.add {s : Int} {f g f' g' : Ps Rat} (hf : Pl f) (hg : Pl g) (hf' : Pl f') (hg' : Pl g') (a : Shd s f f') (b : Shd s g g') : Shd s (f + g) (f' + g') := fun k => by rw [pev_add hf' hg', pev_add hf hg, a k, b k]
theorem Shd.c (s : Int) (r : Rat) : Shd s (Ps.c r) (Ps.c r) := fun k => by rw [pev_c, pev_c]
theorem Shd.uniq {s : Int} {f g g' : Ps Rat} (hg : Pl g) (hg' : Pl g') (a : Shd s f g) (b : Shd s f g') : g = g' := ev_ext hg hg' fun k => by rw [a k, b k]
theorem Shd.inj {s : Int} {f f' g : Ps Rat} (hf : Pl f) (hf' : Pl f') (a : Shd s f g) (b : Shd s f' g) : f = f' := ev_ext hf hf' fun k => by
  have h1 := a (k - s)
  have h2 := b (k - s)
  rw [show s + (k - s) = k by omega] at h1 h2
  rw [← h1, ← h2]
theorem Shd.ne {s : Int} {f g : Ps Rat} (hf : Pl f) (a : Shd s f g) (h : f ≠ 0) : g ≠ 0 := fun z => h (Shd.inj hf Pl.zero a (fun k => by rw [z, pev_zero, pev_zero]))
theorem PoS.tight {p : Po} {n b m : Nat} (h : PoS p n b) (l : Ps.Bd m (pv p)) : PoS p m b := ⟨h.pos, h.cop, h.last, pv_len h l, h.c, h.d⟩
end Pd
set_option maxHeartbeats 2000000
namespace Pd
open PySem PySem.Spec L2
structure Dgs (xs : List Int) (n : Nat) (lim : Int) : Prop where
  len : xs.length = n
  mem : ∀ x ∈ xs, 0 ≤ x ∧ x < lim
theorem Dgs.at {xs : List Int} {n : Nat} {lim : Int} (h : Dgs xs n lim) {i : Int} (h0 : 0 ≤ i) (h1 : i < n) : inR xs i ∧ 0 ≤ gt xs i ∧ gt xs i < lim := by
  have := h.len
  have ir : inR xs i := inR_i h0 (by omega)
  exact ⟨ir, h.mem _ (gt_mem ir)⟩
section
variable {xs ys : List Int} {n b m c : Nat}
end
noncomputable def pt (a : List Int × Int) : Ps Rat := Ps.c ((a.2 : Rat)⁻¹) * lv a.1
structure PtS (a : List Int × Int) (n b : Nat) : Prop where
  ls : LS a.1 n b
  d : Sm a.2 b
  ne : a.2 ≠ 0
theorem PtS.up {a : List Int × Int} {n b m c : Nat} (h : PtS a n b) (l : n ≤ m) (k : b ≤ c) : PtS a m c := ⟨h.ls.up l k, h.d.up k, h.ne⟩
theorem PtS.pl (a : List Int × Int) : Pl (pt a) := (Pl.c _).mul (Pl.lv _)
theorem PtS.lv {a : List Int × Int} {n b : Nat} (h : PtS a n b) : Pd.lv a.1 = ci a.2 * pt a := by
  have k := cc (ic_ne h.ne)
  show _ = Ps.c (a.2 : Rat) * (Ps.c ((a.2 : Rat)⁻¹) * Pd.lv a.1)
  have : Ps.c (a.2 : Rat) * (Ps.c ((a.2 : Rat)⁻¹) * Pd.lv a.1) = (Ps.c (a.2 : Rat) * Ps.c ((a.2 : Rat)⁻¹)) * Pd.lv a.1 := by grind
  rw [this, k]; grind
section
variable {x y : List Int × Int} {n b m c : Nat}
end
end Pd
set_option maxHeartbeats 2000000
namespace Pd
open PySem PySem.Spec L2
def DL (f : Ps Rat) (n : Nat) : Prop := Ps.Bd n f ∧ (n ≠ 0 → f.cf (n - 1) ≠ 0)
theorem DL.uniq {f : Ps Rat} {n m : Nat} (h : DL f n) (k : DL f m) : n = m := by
  rcases Nat.lt_trichotomy n m with q | q | q
  · exact absurd (h.1 (m - 1) (by omega)) (k.2 (by omega))
  · exact q
  · exact absurd (k.1 (n - 1) (by omega)) (h.2 (by omega))
theorem DL.zero {f : Ps Rat} {n : Nat} (h : DL f n) : n = 0 ↔ f = 0 := by
  constructor
  · rintro rfl; exact h.1.nil
  · intro z
    refine Classical.byContradiction fun q => h.2 q ?_
    rw [z, Ps.zero_cf]
structure IsB (D S : Ps Rat) (lC lD lS : Nat) (v : Int) : Prop where
  ge : lS ≤ lD → v = max (-1) ((lC : Int) - lD)
  yes : lD < lS → ∀ z : Int, (z : Rat) * S.cf (lS - 1) = (if 2 ≤ lS then -(D.cf (lS - 2) + D.cf (lS - 2)) else 0) → v = max (max (-1) ((lC : Int) - lS + 1)) z
  no : lD < lS → (∀ z : Int, (z : Rat) * S.cf (lS - 1) ≠ (if 2 ≤ lS then -(D.cf (lS - 2) + D.cf (lS - 2)) else 0)) → v = max (-1) ((lC : Int) - lS + 1)
theorem IsB.uniq {D S : Ps Rat} {lC lD lS : Nat} {v w : Int} (h : IsB D S lC lD lS v) (k : IsB D S lC lD lS w) : v = w := by
  by_cases q : lS ≤ lD
  · rw [h.ge q, k.ge q]
  · by_cases z : ∃ z : Int, (z : Rat) * S.cf (lS - 1) = (if 2 ≤ lS then -(D.cf (lS - 2) + D.cf (lS - 2)) else 0)
    · obtain ⟨z, e⟩ := z
      rw [h.yes (by omega) z e, k.yes (by omega) z e]
    · have n : ∀ z : Int, (z : Rat) * S.cf (lS - 1) ≠ (if 2 ≤ lS then -(D.cf (lS - 2) + D.cf (lS - 2)) else 0) := fun y e => z ⟨y, e⟩
      rw [h.no (by omega) n, k.no (by omega) n]
end Pd
set_option maxHeartbeats 2000000
namespace Pd
open PySem PySem.Spec L2
section
variable {p q r : Po} {n b m c : Nat}
end
end Pd
set_option maxHeartbeats 2000000
namespace Pd
open PySem PySem.Spec L2
theorem dv_Bd {f g : Ps Rat} {m : Nat} (pf : Pl f) (h : Dv f g) (hg : Ps.Bd m g) (g0 : g ≠ 0) : Ps.Bd m f := by
  obtain ⟨k, hk⟩ := dg_ex hg g0
  have f0 : f ≠ 0 := fun z => by
    obtain ⟨a, pa, e⟩ := h
    exact g0 (by rw [e, z]; grind)
  obtain ⟨j, hj⟩ := pf.dg f0
  have l1 := h.deg hj hk
  have : k < m := Classical.byContradiction fun w => hk.2 (hg k (by omega))
  exact hj.1.up (by omega)
structure Rp (x : Qt) (N D : Ps Rat) : Prop where
  pN : Pl N
  pD : Pl D
  ne : D ≠ 0
  eq : pv x.num * D = N * pv x.den
section
variable {x y : Qt} {n b m c : Nat} {N D N' D' : Ps Rat}
theorem QtS.rp (h : QtS x n b) : Rp x (pv x.num) (pv x.den) := ⟨h.num.pl, h.den.pl, h.ne, rfl⟩
theorem Rp.to (h : Rp x N D) (hx : QtS x n b) (pN' : Pl N') (pD' : Pl D') (ne : D' ≠ 0) (e : N * D' = N' * D) : Rp x N' D' := ⟨pN', pD', ne, by
  refine mul_can h.pD (hx.num.pl.mul pD') (pN'.mul hx.den.pl) h.ne ?_
  have e1 := h.eq
  generalize pv x.num = X at *
  generalize pv x.den = Y at *
  have : D * (X * D') = (X * D) * D' := by grind
  rw [this, e1]
  have : N * Y * D' = N * D' * Y := by grind
  rw [this, e]; grind⟩
theorem Rp.cross (h : Rp x N D) (k : Rp x N' D') (hx : QtS x n b) : N * D' = N' * D := by
  refine mul_can hx.den.pl (h.pN.mul k.pD) (k.pN.mul h.pD) hx.ne ?_
  have e1 := h.eq
  have e2 := k.eq
  generalize pv x.num = X at *
  generalize pv x.den = Y at *
  have : Y * (N * D') = (N * Y) * D' := by grind
  rw [this, ← e1]
  have : Y * (N' * D) = (N' * Y) * D := by grind
  rw [this, ← e2]; grind
theorem Rp.tight (h : Rp x N D) (hx : QtS x n b) (bN : Ps.Bd m N) (bD : Ps.Bd m D) : QtS x m b := by
  have e := h.eq
  have t2 : Ps.Bd m (pv x.den) := dv_Bd hx.den.pl (hx.cop.symm.dvd ⟨N, h.pN, by rw [e]; grind⟩ h.pD) bD h.ne
  have t1 : Ps.Bd m (pv x.num) := by
    by_cases z : N = 0
    · have : pv x.num = 0 := Classical.byContradiction fun w => mul_ne hx.num.pl h.pD w h.ne (by rw [e, z]; grind)
      rw [this]; exact Ps.Bd.zero.up (Nat.zero_le _)
    · exact dv_Bd hx.num.pl (hx.cop.dvd ⟨D, h.pD, by rw [e]; grind⟩ h.pN) bN z
  exact ⟨hx.num.tight t1, hx.den.tight t2, hx.cop, hx.nz, hx.mon⟩
theorem Rp.size {A B : Po} {s : Nat} (h : Rp x (pv A) (pv B)) (hx : QtS x n b) (hA : PoS A m s) (hB : PoS B m s) (hm : m ≤ 1000000) : QtS x m (Eb m s + 2 * s) :=
  qt_size (h.tight hx (pv_Bd hA) (pv_Bd hB)) hA hB (fun z => h.ne (pv_nil z)) h.eq hm
theorem Rp.zero (h : Rp x N D) (hx : QtS x n b) : x.num.coefs = [] ↔ N = 0 := by
  have e := h.eq
  constructor
  · intro z
    rw [pv_nil z] at e
    exact Classical.byContradiction fun w => mul_ne h.pN hx.den.pl w hx.ne (by rw [← e]; grind)
  · intro z
    rw [z] at e
    refine (pv_zero_iff hx.num).mp (Classical.byContradiction fun w => mul_ne hx.num.pl h.pD w h.ne (by rw [e]; grind))
theorem Rp.eqv (h : Rp x N D) (hx : QtS x n b) (k : Rp y N' D') (hy : QtS y m c) : q_Quotient_eq x y = true ↔ N * D' = N' * D := by
  rw [qeq_spec hx hy]
  constructor
  · intro e
    exact h.cross (⟨k.pN, k.pD, k.ne, by
      refine mul_can hy.den.pl (hx.num.pl.mul k.pD) (k.pN.mul hx.den.pl) hy.ne ?_
      have e1 := k.eq
      generalize pv x.num = X at *
      generalize pv x.den = Y at *
      generalize pv y.num = Z at *
      generalize pv y.den = W at *
      have : W * (X * D') = (X * W) * D' := by grind
      rw [this, e]
      have : Z * Y * D' = (Z * D') * Y := by grind
      rw [this, e1]; grind⟩) hx
  · intro e
    have r : Rp x N' D' := h.to hx k.pN k.pD k.ne e
    have e1 := r.eq
    have e2 := k.eq
    refine mul_can k.pD (hx.num.pl.mul hy.den.pl) (hy.num.pl.mul hx.den.pl) k.ne ?_
    generalize pv x.num = X at *
    generalize pv x.den = Y at *
    generalize pv y.num = Z at *
    generalize pv y.den = W at *
    have : D' * (X * W) = (X * D') * W := by grind
    rw [this, e1]
    have : D' * (Z * Y) = (Z * D') * Y := by grind
    rw [this, e2]; grind
variable {M B : Nat}
end
end Pd
set_option maxHeartbeats 2000000
namespace Pd
open PySem PySem.Spec L2
def Iw (W : Int) (e : Nat) (g : Ps Rat) : Prop := ∀ k, ∃ z : Int, g.cf k = (z : Rat) * (W : Rat)⁻¹ ∧ Sm z e
theorem Iw.up {W : Int} {e f : Nat} {g : Ps Rat} (h : Iw W e g) (l : e ≤ f) : Iw W f g := fun k => let ⟨z, a, b⟩ := h k; ⟨z, a, b.up l⟩
theorem Iw.zero {W : Int} {e : Nat} (he : 0 < e) : Iw W e 0 := fun k => ⟨0, by rw [Ps.zero_cf, show ((0 : Int) : Rat) = 0 from rfl, Rat.zero_mul], Sm.zero he⟩
theorem Iw.add {W : Int} {e f c : Nat} {g h : Ps Rat} (a : Iw W e g) (b : Iw W f h) (l : e + 1 ≤ c) (l' : f + 1 ≤ c) : Iw W c (g + h) := fun k => by
  obtain ⟨z, e1, s1⟩ := a k
  obtain ⟨y, e2, s2⟩ := b k
  exact ⟨z + y, by rw [Ps.add_cf, e1, e2, Rat.intCast_add]; grind, s1.addUp2 s2 l l'⟩
theorem Iw.neg {W : Int} {e : Nat} {g : Ps Rat} (a : Iw W e g) : Iw W e (-g) := fun k => by
  obtain ⟨z, e1, s1⟩ := a k
  exact ⟨-z, by rw [Ps.neg_cf, e1, Rat.intCast_neg]; grind, s1.negUp⟩
theorem cv_smz {e e' : Nat} : ∀ (n : Nat) (f g : Nat → Int), (∀ k, n ≤ k → f k = 0) → (∀ k, Sm (f k) e) → (∀ k, Sm (g k) e') → ∀ k, Sm (Ps.cv f g k) (e + e' + n)
  | 0, f, g, h0, hf, hg, k => by
    have : f = fun _ => 0 := funext fun k => h0 k (Nat.zero_le _)
    rw [this, Ps.cv_zero]
    exact Sm.zero (by have := (hf 0).pos; omega)
  | n + 1, f, g, h0, hf, hg, 0 => by
    show Sm (f 0 * g 0) _
    exact (hf 0).mulUp (hg 0) (by omega)
  | n + 1, f, g, h0, hf, hg, k + 1 => by
    have ih := cv_smz n (Ps.sh f) g (fun k hk => h0 (k + 1) (by omega)) (fun k => hf (k + 1)) hg k
    show Sm (f 0 * g (k + 1) + Ps.cv (Ps.sh f) g k) _
    exact Sm.addUp2 ((hf 0).mulUp (hg (k + 1)) (Nat.le_refl _)) ih (by omega) (by omega)
theorem Iw.mul {W V : Int} {e e' n c : Nat} {f g : Ps Rat} (W0 : W ≠ 0) (hf : Iw W e f) (hg : Iw V e' g) (hb : Ps.Bd n f) (l : e + e' + n ≤ c) : Iw (W * V) c (f * g) := by
  have hf' : ∀ k, ∃ z : Int, f.cf k = (z : Rat) * (W : Rat)⁻¹ ∧ Sm z e := hf
  have hg' : ∀ k, ∃ z : Int, g.cf k = (z : Rat) * (V : Rat)⁻¹ ∧ Sm z e' := hg
  obtain ⟨zf, h1⟩ := Classical.axiomOfChoice hf'
  obtain ⟨zg, h2⟩ := Classical.axiomOfChoice hg'
  intro k
  have z0 : ∀ k, n ≤ k → zf k = 0 := fun k hk => by
    have := (h1 k).1
    rw [hb k hk] at this
    have w := ic_ne W0
    refine ic_eq ?_
    show (zf k : Rat) = 0
    generalize (zf k : Rat) = u at *
    generalize (W : Rat) = v at *
    grind
  refine ⟨Ps.cv zf zg k, ?_, (cv_smz n zf zg z0 (fun k => (h1 k).2) (fun k => (h2 k).2) k).up l⟩
  have ef : f = Ps.c ((W : Rat)⁻¹) * ⟨fun k => (zf k : Rat)⟩ := Ps.ext fun k => by rw [Ps.c_mul, (h1 k).1]; grind
  have eg : g = Ps.c ((V : Rat)⁻¹) * ⟨fun k => (zg k : Rat)⟩ := Ps.ext fun k => by rw [Ps.c_mul, (h2 k).1]; grind
  have e : f * g = Ps.c ((W : Rat)⁻¹ * (V : Rat)⁻¹) * ((⟨fun k => (zf k : Rat)⟩ : Ps Rat) * ⟨fun k => (zg k : Rat)⟩) := by
    rw [Ps.c_mulc]
    conv => lhs; rw [ef, eg]
    grind
  rw [e, Ps.c_mul, Ps.mul_cf, cv_cast, Rat.intCast_mul]
  generalize Ps.cv (fun i => (zf i : Rat)) (fun i => (zg i : Rat)) k = u
  have : ((W : Rat) * (V : Rat))⁻¹ = (W : Rat)⁻¹ * (V : Rat)⁻¹ := Rat.inv_mul_rev _ _ |>.trans (Rat.mul_comm _ _)
  rw [this]; grind
theorem Iw.c {W : Int} {e : Nat} {x : Int} (hW : W ≠ 0) (hx : Sm x e) : Iw W e (Ps.c ((x : Rat) * (W : Rat)⁻¹)) := fun k => by
  rw [Ps.c_cf]
  split
  · exact ⟨x, rfl, hx⟩
  · exact ⟨0, by rw [show ((0 : Int) : Rat) = 0 from rfl, Rat.zero_mul], Sm.zero hx.pos⟩
theorem PoS.iw {p : Po} {n B e : Nat} {W : Int} (hp : PoS p n B) (hn : n ≤ 1000000) (W0 : W ≠ 0) (hW : Sm W (e + 1)) (h : Iw W e (pv p)) : PoS p n (e + 1) := by
  have h' : ∀ k, ∃ z : Int, (pv p).cf k = (z : Rat) * (W : Rat)⁻¹ ∧ Sm z e := h
  obtain ⟨z, hz⟩ := Classical.axiomOfChoice h'
  have w := ic_ne W0
  have z0 : ∀ k, n ≤ k → z k = 0 := fun k hk => by
    have := (hz k).1
    rw [pv_Bd hp k hk] at this
    refine ic_eq ?_
    show (z k : Rat) = 0
    generalize (z k : Rat) = u at *
    generalize (W : Rat) = v at *
    grind
  refine po_can (G := mkL n z) (u := 1) (w := W) (e := e) (f := 1) hp (fun k => by rw [mkL_co z0]; exact (hz k).2) (by rw [mkL_len]; exact Nat.le_refl _) hn W0 (one_sm (by decide)) hW fun k => ?_
  rw [mkL_co z0, (hz k).1, show ((1 : Int) : Rat) = 1 from rfl, Rat.mul_one, Rat.div_def]
noncomputable def pr (rows : List Po) (k : Nat) : Ps Rat := match rows[k]? with
  | some p => pv p
  | none => 0
theorem pr_some {rows : List Po} {k : Nat} {p : Po} (h : rows[k]? = some p) : pr rows k = pv p := by unfold pr; rw [h]
theorem pr_ge {rows : List Po} {k : Nat} (h : rows.length ≤ k) : pr rows k = 0 := by unfold pr; rw [List.getElem?_eq_none h]
theorem gtN {α : Type} [Inhabited α] {xs : List α} {k : Nat} {x : α} (h : xs[k]? = some x) : gt xs (k : Int) = x := by
  have hk : k < xs.length := (List.getElem?_eq_some_iff.mp h).1
  unfold gt atI
  rw [ixN_n hk]
  show (xs[k]?).getD default = x
  rw [h]; rfl
theorem gt_memG {α : Type} [Inhabited α] {xs : List α} {k : Nat} (h : k < xs.length) : gt xs (k : Int) ∈ xs ∧ xs[k]? = some (gt xs (k : Int)) := by
  have e : xs[k]? = some xs[k] := List.getElem?_eq_getElem h
  rw [gtN e]
  exact ⟨List.getElem_mem h, e⟩
structure RV (rows : List Po) (m n : Nat) (W : Int) (e : Nat) : Prop where
  len : rows.length ≤ m
  po : ∀ p ∈ rows, ∃ B, PoS p n B
  ne : W ≠ 0
  w : Sm W (e + 1)
  val : ∀ i, Iw W e (pr rows i)
theorem RV.up {rows : List Po} {m n e m' n' e' : Nat} {W : Int} (h : RV rows m n W e) (l1 : m ≤ m') (l2 : n ≤ n') (l3 : e ≤ e') : RV rows m' n' W e' :=
  ⟨Nat.le_trans h.len l1, fun p hp => let ⟨B, s⟩ := h.po p hp; ⟨B, s.up l2 (Nat.le_refl _)⟩, h.ne, h.w.up (by omega), fun i => (h.val i).up l3⟩
theorem RV.pos {rows : List Po} {m n e : Nat} {W : Int} (h : RV rows m n W e) (hn : n ≤ 1000000) {p : Po} (hp : p ∈ rows) : PoS p n (e + 1) := by
  obtain ⟨B, s⟩ := h.po p hp
  obtain ⟨i, hi⟩ := List.getElem?_of_mem hp
  have := h.val i
  rw [pr_some hi] at this
  exact s.iw hn h.ne h.w this
theorem RV.at {rows : List Po} {m n e : Nat} {W : Int} (h : RV rows m n W e) (hn : n ≤ 1000000) {i : Nat} (hi : i < rows.length) : PoS (gt rows (i : Int)) n (e + 1) ∧ pv (gt rows (i : Int)) = pr rows i := by
  obtain ⟨a, b⟩ := gt_memG hi
  exact ⟨h.pos hn a, (pr_some b).symm⟩
theorem RV.bd {rows : List Po} {m n e : Nat} {W : Int} (h : RV rows m n W e) (i : Nat) : Ps.Bd n (pr rows i) := by
  by_cases hi : i < rows.length
  · have e : rows[i]? = some rows[i] := List.getElem?_eq_getElem hi
    rw [pr_some e]
    obtain ⟨B, s⟩ := h.po _ (List.getElem_mem hi)
    exact pv_Bd s
  · rw [pr_ge (by omega)]; exact Ps.Bd.zero.up (Nat.zero_le _)
theorem RV.bd2 {rows : List Po} {m n e : Nat} {W : Int} (h : RV rows m n W e) (i : Nat) (hi : m ≤ i) : pr rows i = 0 := pr_ge (Nat.le_trans h.len hi)
theorem RV.ep {rows : List Po} {m n e : Nat} {W : Int} (h : RV rows m n W e) : 0 < e := by
  obtain ⟨z, _, s⟩ := h.val 0 0
  exact s.pos
theorem RV.pl {rows : List Po} {m n e : Nat} {W : Int} (h : RV rows m n W e) (i : Nat) : Pl (pr rows i) := ⟨n, h.bd i⟩
noncomputable def pv2 (x : Po2) : Ps (Ps Rat) := ⟨pr x.rows⟩
structure P2V (x : Po2) (m n : Nat) (W : Int) (e : Nat) : Prop where
  rv : RV x.rows m n W e
  last : 0 < x.rows.length → pr x.rows (x.rows.length - 1) ≠ 0
theorem P2V.up {x : Po2} {m n e m' n' e' : Nat} {W : Int} (h : P2V x m n W e) (l1 : m ≤ m') (l2 : n ≤ n') (l3 : e ≤ e') : P2V x m' n' W e' := ⟨h.rv.up l1 l2 l3, h.last⟩
theorem P2V.bd {x : Po2} {m n e : Nat} {W : Int} (h : P2V x m n W e) : Ps.Bd m (pv2 x) := fun i hi => h.rv.bd2 i hi
section
variable {rows : List Po} {x y : Po2} {m n e m' n' e' : Nat} {W V : Int}
theorem empty_po : v_Poly_init ([] : List Int) (1 : Int) ∧ PoS (q_Poly_init ([] : List Int) (1 : Int)) 0 1 ∧ pv (q_Poly_init ([] : List Int) (1 : Int)) = 0 := by
  obtain ⟨v, s, ev⟩ := (LS.nil (b := 1) (by decide)).po (d := 1) (by decide) (by decide) (one_sm (by decide))
  refine ⟨v, s, ?_⟩
  rw [ci_one, lv_nil] at ev
  have : (1 : Ps Rat) * pv (q_Poly_init ([] : List Int) 1) = pv (q_Poly_init ([] : List Int) 1) := by grind
  rw [← this, ← ev]
end
end Pd
set_option maxHeartbeats 2000000
namespace Pd
open PySem PySem.Spec L2
section
variable {x y : Po2} {m n e m' n' e' : Nat} {W V : Int}
theorem P2V.tight (h : P2V x m n W e) (hb : Ps.Bd m' (pv2 x)) : P2V x m' n W e := by
  refine ⟨⟨?_, h.rv.po, h.rv.ne, h.rv.w, h.rv.val⟩, h.last⟩
  rcases Nat.lt_or_ge m' x.rows.length with q | q
  · exact absurd (hb (x.rows.length - 1) (by omega)) (h.last (by omega))
  · exact q
end
end Pd
set_option maxHeartbeats 2000000
namespace Pd
open PySem PySem.Spec L2
def rw_ (T : List (List Int)) (i : Nat) : List Int := (T[i]?).getD []
noncomputable def tr (T : List (List Int)) (i : Nat) : Ps Rat := lv (rw_ T i)
noncomputable def ptab (T : List (List Int)) : Ps (Ps Rat) := ⟨tr T⟩
theorem rw_some {T : List (List Int)} {i : Nat} {r : List Int} (h : T[i]? = some r) : rw_ T i = r := by unfold rw_; rw [h]; rfl
theorem rw_ge {T : List (List Int)} {i : Nat} (h : T.length ≤ i) : rw_ T i = [] := by unfold rw_; rw [List.getElem?_eq_none h]; rfl
structure TS (T : List (List Int)) (m n b : Nat) : Prop where
  len : T.length ≤ m
  row : ∀ r ∈ T, LS r n b
theorem TS.up {T : List (List Int)} {m n b m' n' b' : Nat} (h : TS T m n b) (l1 : m ≤ m') (l2 : n ≤ n') (l3 : b ≤ b') : TS T m' n' b' := ⟨Nat.le_trans h.len l1, fun r hr => (h.row r hr).up l2 l3⟩
theorem TS.rw {T : List (List Int)} {m n b : Nat} (h : TS T m n b) (hb : 0 < b) (i : Nat) : LS (rw_ T i) n b := by
  by_cases hi : i < T.length
  · have e : T[i]? = some T[i] := List.getElem?_eq_getElem hi
    rw [rw_some e]
    exact h.row _ (List.getElem_mem hi)
  · rw [rw_ge (by omega)]
    exact (LS.nil hb).up (Nat.zero_le _) (Nat.le_refl _)
theorem LS.iw {xs : List Int} {n b : Nat} (h : LS xs n b) : Iw 1 b (lv xs) := fun k => ⟨co xs k, by rw [lv_cf, show ((1 : Int) : Rat) = 1 from rfl]; grind, h.c k⟩
section
variable {T : List (List Int)} {m n b : Nat} {d : Int}
end
end Pd
set_option maxHeartbeats 2000000
namespace Pd
open PySem PySem.Spec L2
section
variable {A B : List (List Int)} {m n b m' n' c : Nat}
end
end Pd
set_option maxHeartbeats 2000000
namespace Pd
open PySem PySem.Spec L2
theorem Iw.pev {W : Int} {e n s : Nat} {g : Ps Rat} {x : Int} (W0 : W ≠ 0) (h : Iw W e g) (hb : Ps.Bd n g) (hx : Sm x s) : ∃ z : Int, pev g (x : Rat) = (z : Rat) * (W : Rat)⁻¹ ∧ Sm z (e + n * (s + 1)) := by
  have h' : ∀ k, ∃ z : Int, g.cf k = (z : Rat) * (W : Rat)⁻¹ ∧ Sm z e := h
  obtain ⟨z, zz⟩ := Classical.axiomOfChoice h'
  have w := ic_ne W0
  have z0 : ∀ k, n ≤ k → z k = 0 := fun k hk => by
    have := (zz k).1
    rw [hb k hk] at this
    refine ic_eq ?_
    show (z k : Rat) = 0
    generalize (z k : Rat) = u at *
    generalize (W : Rat) = v at *
    grind
  have eg : g = Ps.c ((W : Rat)⁻¹) * lv (mkL n z) := Ps.ext fun k => by
    rw [Ps.c_mul, (zz k).1, lv_cf, mkL_co z0]; grind
  refine ⟨hz x (mkL n z), ?_, ?_⟩
  · rw [eg, pev_mul (Pl.c _) (Pl.lv _), pev_c, pev_lv]
    show _ = (hz x (mkL n z) : Rat) * _
    grind
  · have := hz_sm hx (xs := mkL n z) (b := e) fun k => by rw [mkL_co z0]; exact (zz k).2
    rw [mkL_len] at this
    exact this
noncomputable def pe1 (x : Rat) (f : Ps (Ps Rat)) : Ps Rat := ⟨fun i => pev (f.cf i) x⟩
def Pl2 (f : Ps (Ps Rat)) : Prop := (∃ m, Ps.Bd m f) ∧ ∀ i, Pl (f.cf i)
theorem Pl2.c {g : Ps Rat} (h : Pl g) : Pl2 (Ps.c g) := ⟨⟨1, Ps.Bd.c g⟩, fun i => by
  rw [Ps.c_cf]
  split
  · exact h
  · exact Pl.zero⟩
theorem Pl2.add {f g : Ps (Ps Rat)} (hf : Pl2 f) (hg : Pl2 g) : Pl2 (f + g) := ⟨let ⟨m, a⟩ := hf.1; let ⟨n, b⟩ := hg.1; ⟨max m n, (a.up (by omega)).add (b.up (by omega))⟩, fun i => (hf.2 i).add (hg.2 i)⟩
theorem Pl2.neg {f : Ps (Ps Rat)} (hf : Pl2 f) : Pl2 (-f) := ⟨let ⟨m, a⟩ := hf.1; ⟨m, a.neg⟩, fun i => (hf.2 i).neg⟩
theorem Pl2.sub {f g : Ps (Ps Rat)} (hf : Pl2 f) (hg : Pl2 g) : Pl2 (f - g) := ⟨let ⟨m, a⟩ := hf.1; let ⟨n, b⟩ := hg.1; ⟨max m n, (a.up (by omega)).sub (b.up (by omega))⟩, fun i => (hf.2 i).sub (hg.2 i)⟩
theorem cv_pl : ∀ (I : Nat) (F G : Nat → Ps Rat), (∀ i, Pl (F i)) → (∀ i, Pl (G i)) → Pl (Ps.cv F G I)
  | 0, F, G, hF, hG => (hF 0).mul (hG 0)
  | I + 1, F, G, hF, hG => ((hF 0).mul (hG (I + 1))).add (cv_pl I (Ps.sh F) G (fun i => hF (i + 1)) hG)
theorem Pl2.mul {f g : Ps (Ps Rat)} (hf : Pl2 f) (hg : Pl2 g) : Pl2 (f * g) := ⟨let ⟨m, a⟩ := hf.1; let ⟨n, b⟩ := hg.1; ⟨_, a.mul b⟩, fun I => cv_pl I _ _ hf.2 hg.2⟩
noncomputable def v2 (f : Ps (Ps Rat)) (x y : Rat) : Rat := pev (pe1 x f) y
section
variable {p : Po2} {m n e s : Nat} {W x : Int}
end
end Pd
set_option maxHeartbeats 2000000
namespace Pd
open PySem PySem.Spec L2
def P2 (x : Po2) (m n e : Nat) : Prop := ∃ W, P2V x m n W e
theorem P2.up {x : Po2} {m n e m' n' e' : Nat} (h : P2 x m n e) (l1 : m ≤ m') (l2 : n ≤ n') (l3 : e ≤ e') : P2 x m' n' e' := let ⟨W, a⟩ := h; ⟨W, a.up l1 l2 l3⟩
theorem P2V.p2 {x : Po2} {m n e : Nat} {W : Int} (h : P2V x m n W e) : P2 x m n e := ⟨W, h⟩
theorem P2.len {x : Po2} {m n e : Nat} (h : P2 x m n e) : x.rows.length ≤ m := let ⟨_, a⟩ := h; a.rv.len
theorem P2.ep {x : Po2} {m n e : Nat} (h : P2 x m n e) : 0 < e := let ⟨_, a⟩ := h; a.rv.ep
section
variable {rows : List Po} {m n e t : Nat} {W k : Int} {st : Fr}
end
end Pd
set_option maxHeartbeats 2000000
namespace Pd
open PySem PySem.Spec L2
section
variable {T : List (List Int)} {m n b : Nat} {d : Int}
end
section
variable {p : Po} {n b : Nat}
end
end Pd
set_option maxHeartbeats 2000000
namespace Pd
open PySem PySem.Spec L2
def lin (a b : Int) : Ps Rat := lv [b, a]
structure Prt (P : List KV) (T : List (List Int)) (nu de : Int) (c r z : Nat) : Prop where
  eq : P = [KV.ll T, KV.i nu, KV.i de, KV.i c, KV.i r, KV.i z]
  ts : TS T 3 2 3
  nz : ptab T ≠ 0
  nu0 : nu ≠ 0
  nuS : Sm nu 6
  de1 : 1 ≤ de
  deS : Sm de 6
  c1 : 1 ≤ c
  c3 : c ≤ 3
  r3 : r ≤ 3
  z3 : z ≤ 3
section
variable {P : List KV} {T : List (List Int)} {nu de : Int} {c r z : Nat}
theorem Prt.g0 (h : Prt P T nu de c r z) : inR P (0 : Int) ∧ gt P (0 : Int) = KV.ll T := by rw [h.eq]; exact ⟨inR_nat (k := 0) (by simp), rfl⟩
theorem Prt.g1 (h : Prt P T nu de c r z) : inR P (1 : Int) ∧ gt P (1 : Int) = KV.i nu := by rw [h.eq]; exact ⟨inR_nat (k := 1) (by simp), rfl⟩
theorem Prt.g2 (h : Prt P T nu de c r z) : inR P (2 : Int) ∧ gt P (2 : Int) = KV.i de := by rw [h.eq]; exact ⟨inR_nat (k := 2) (by simp), rfl⟩
theorem Prt.g3 (h : Prt P T nu de c r z) : inR P (3 : Int) ∧ gt P (3 : Int) = KV.i (c : Int) := by rw [h.eq]; exact ⟨inR_nat (k := 3) (by simp), rfl⟩
end
end Pd
set_option maxHeartbeats 2000000
namespace Pd
open PySem PySem.Spec L2
section
variable {P : List KV} {T : List (List Int)} {nu de : Int} {c r z : Nat} {n k : Int} {s : Nat}
end
end Pd
set_option maxHeartbeats 2000000
namespace Pd
open PySem PySem.Spec L2
section
variable {T : List (List Int)} {nu de : Int} {c r z : Nat} {S : Bs}
end
end Pd
set_option maxHeartbeats 2000000
namespace Pd
open PySem PySem.Spec L2
section
variable {T : List (List Int)} {nu de : Int} {c r z n k : Nat} {S : Bs}
end
end Pd
set_option maxHeartbeats 2000000
namespace Pd
open PySem PySem.Spec L2
section
variable {T : List (List Int)} {nu de : Int} {c r z t : Nat} {S : Bs}
end
end Pd
set_option maxHeartbeats 2000000
namespace Pd
open PySem PySem.Spec L2
def xm (n : Nat) : Ps Rat := ⟨fun k => if k = n then 1 else 0⟩
theorem xm_zero : xm 0 = 1 := Ps.ext fun k => by
  show (if k = 0 then (1 : Rat) else 0) = (Ps.c (1 : Rat)).cf k
  rw [Ps.c_cf]
theorem xm_succ (n : Nat) : xm (n + 1) = Ps.X * xm n := Ps.ext fun k => by
  cases k with
  | zero =>
    rw [Ps.X_zero]
    show (if 0 = n + 1 then (1 : Rat) else 0) = 0
    rw [if_neg (by omega)]
  | succ k =>
    rw [Ps.X_succ]
    show (if k + 1 = n + 1 then (1 : Rat) else 0) = if k = n then 1 else 0
    by_cases q : k = n
    · rw [if_pos q, if_pos (by omega)]
    · rw [if_neg q, if_neg (by omega)]
theorem xm_add (a : Nat) : ∀ b, xm (a + b) = xm a * xm b
  | 0 => by rw [xm_zero, Nat.add_zero]; grind
  | b + 1 => by rw [← Nat.add_assoc, xm_succ, xm_succ, xm_add a b]; grind
theorem xm_bd (n : Nat) : Ps.Bd (n + 1) (xm n) := fun k hk => if_neg (by omega)
def TP (d : Nat) (a β : Rat) (f : Ps Rat) : Prop := Ps.Bd d (Ps.X * f - Ps.c a * (Ps.X + Ps.c β) * xm d)
theorem tp_A (d : Nat) (a β : Rat) : Ps.Bd (d + 2) (Ps.c a * (Ps.X + Ps.c β) * xm d) := by
  have h1 : Ps.Bd 2 (Ps.c a * (Ps.X + Ps.c β)) := Ps.Bd.cmul a (Ps.Bd.add (by
    have := Ps.Bd.Xmul (Ps.Bd.c (1 : Rat))
    have e : Ps.X * Ps.c (1 : Rat) = Ps.X := by
      have : Ps.c (1 : Rat) = 1 := rfl
      rw [this]; grind
    rw [e] at this
    exact this) ((Ps.Bd.c β).up (by decide)))
  exact (h1.mul (xm_bd d)).up (by omega)
theorem TP.mul {d e : Nat} {a β a' β' : Rat} {f g : Ps Rat} (hf : TP d a β f) (hg : TP e a' β' g) : TP (d + e) (a * a') (β + β') (f * g) := by
  have A := tp_A d a β
  have B := tp_A e a' β'
  have id1 : Ps.X * (Ps.X * (f * g) - Ps.c (a * a') * (Ps.X + Ps.c (β + β')) * xm (d + e)) = Ps.c a * (Ps.X + Ps.c β) * xm d * (Ps.X * g - Ps.c a' * (Ps.X + Ps.c β') * xm e) + (Ps.X * f - Ps.c a * (Ps.X + Ps.c β) * xm d) * (Ps.c a' * (Ps.X + Ps.c β') * xm e) + (Ps.X * f - Ps.c a * (Ps.X + Ps.c β) * xm d) * (Ps.X * g - Ps.c a' * (Ps.X + Ps.c β') * xm e) + Ps.c (a * β * a' * β') * xm (d + e) := by
    rw [xm_add, Ps.c_mulc a a', Ps.c_add β β', Ps.c_mulc (a * β * a') β', Ps.c_mulc (a * β) a', Ps.c_mulc a β]
    generalize Ps.c a = x1
    generalize Ps.c β = x2
    generalize Ps.c a' = x3
    generalize Ps.c β' = x4
    generalize xm d = x5
    generalize xm e = x6
    generalize (Ps.X : Ps Rat) = x7
    grind
  have hf' : Ps.Bd d (Ps.X * f - Ps.c a * (Ps.X + Ps.c β) * xm d) := hf
  have hg' : Ps.Bd e (Ps.X * g - Ps.c a' * (Ps.X + Ps.c β') * xm e) := hg
  have b1 := (A.mul hg').up (show _ ≤ d + e + 1 by omega)
  have b2 := (hf'.mul B).up (show _ ≤ d + e + 1 by omega)
  have b3 := (hf'.mul hg').up (show _ ≤ d + e + 1 by omega)
  have b4 := (Ps.Bd.cmul (a * β * a' * β') (xm_bd (d + e)))
  have all := ((b1.add b2).add b3).add b4
  rw [← id1] at all
  intro k hk
  have := all (k + 1) (by omega)
  rw [Ps.X_succ] at this
  exact this
theorem TP.one : TP 0 1 0 (1 : Ps Rat) := by
  have : Ps.X * (1 : Ps Rat) - Ps.c 1 * (Ps.X + Ps.c 0) * xm 0 = 0 := by
    have e1q : Ps.c (1 : Rat) = 1 := rfl
    have e2q : Ps.c (0 : Rat) = 0 := rfl
    rw [xm_zero, e1q, e2q]; grind
  show Ps.Bd 0 _
  rw [this]; exact Ps.Bd.zero
theorem TP.ln {a b : Int} (h : a ≠ 0) : TP 1 (a : Rat) ((b : Rat) * (a : Rat)⁻¹) (lin a b) := by
  have an := ic_ne h
  have e1q : lin a b = Ps.c (b : Rat) + Ps.X * Ps.c (a : Rat) := by
    unfold lin
    rw [lv_cons, lv_cons, lv_nil]
    have : Ps.c (a : Rat) + Ps.X * 0 = Ps.c (a : Rat) := by grind
    rw [this]
  have e2q : Ps.c ((b : Rat) * (a : Rat)⁻¹) * Ps.c (a : Rat) = Ps.c (b : Rat) := by
    rw [← Ps.c_mulc]; congr 1; grind
  have x1 : xm 1 = Ps.X := by rw [xm_succ, xm_zero]; grind
  have : Ps.X * lin a b - Ps.c (a : Rat) * (Ps.X + Ps.c ((b : Rat) * (a : Rat)⁻¹)) * xm 1 = 0 := by
    rw [e1q, x1]
    generalize Ps.c (a : Rat) = u1 at *
    generalize Ps.c (b : Rat) = u2 at *
    generalize Ps.c ((b : Rat) * (a : Rat)⁻¹) = u3 at *
    generalize (Ps.X : Ps Rat) = u4 at *
    grind
  show Ps.Bd 1 _
  rw [this]; exact Ps.Bd.zero.up (by decide)
theorem TP.top {d : Nat} {a β : Rat} {f : Ps Rat} (h : TP d a β f) : f.cf d = a ∧ (Ps.X * f).cf d = a * β := by
  have ex : ∀ k, (Ps.c a * (Ps.X + Ps.c β) * xm d).cf k = (if k = d + 1 then a else 0) + if k = d then a * β else 0 := fun k => by
    have e : Ps.c a * (Ps.X + Ps.c β) * xm d = Ps.c a * xm (d + 1) + Ps.c (a * β) * xm d := by
      rw [xm_succ, Ps.c_mulc]; grind
    rw [e, Ps.add_cf, Ps.c_mul, Ps.c_mul]
    show a * (if k = d + 1 then (1 : Rat) else 0) + a * β * (if k = d then (1 : Rat) else 0) = _
    split <;> split <;> grind
  have h1 := h (d + 1) (by omega)
  have h2 := h d (Nat.le_refl _)
  rw [Ps.sub_cf, ex] at h1 h2
  rw [Ps.X_succ, if_pos rfl, if_neg (by omega)] at h1
  rw [if_neg (by omega), if_pos rfl] at h2
  constructor
  · grind
  · grind
end Pd
set_option maxHeartbeats 2000000
namespace Pd
open PySem PySem.Spec L2
def orw (o : Opr) : Po2 := ⟨o.coefs⟩
def OPV (o : Opr) (m n : Nat) (W : Int) (e : Nat) : Prop := P2V (orw o) m n W e
section
variable {o o' : Opr} {rows : List Po} {m n e m' n' e' : Nat} {W V : Int}
end
end Pd
set_option maxHeartbeats 2000000
namespace Pd
open PySem PySem.Spec L2
noncomputable def cv_ (o : Opr) (i : Nat) (x : Int) : Rat := pev (pr o.coefs i) (x : Rat)
section
variable {o o' : Opr} {m n e m' n' e' : Nat} {W V : Int}
end
def apl (a : Nat → Int → Rat) (u : Nat → Rat) (x : Int) : Nat → Rat
  | 0 => 0
  | j + 1 => apl a u x j + a j x * u j
end Pd
set_option maxHeartbeats 2000000
namespace Pd
open PySem PySem.Spec L2
abbrev Part := List Int × Int
structure PL (ps : List Part) (N n b : Nat) : Prop where
  len : ps.length ≤ N
  p : ∀ x ∈ ps, PtS x n b ∧ Tr x.1
theorem PL.up {ps : List Part} {N n b N' n' b' : Nat} (h : PL ps N n b) (l1 : N ≤ N') (l2 : n ≤ n') (l3 : b ≤ b') : PL ps N' n' b' := ⟨Nat.le_trans h.len l1, fun x hx => ⟨(h.p x hx).1.up l2 l3, (h.p x hx).2⟩⟩
noncomputable def ptv (ps : List Part) (i : Nat) : Ps Rat := match ps[i]? with
  | some x => pt x
  | none => 0
theorem ptv_some {ps : List Part} {i : Nat} {x : Part} (h : ps[i]? = some x) : ptv ps i = pt x := by unfold ptv; rw [h]
def Cut (ps : List Part) : Prop := 0 < ps.length → ptv ps (ps.length - 1) ≠ 0
section
variable {ps qs : List Part} {N n b M m c : Nat}
end
end Pd
set_option maxHeartbeats 2000000
namespace Pd
open PySem PySem.Spec L2
noncomputable def pcv_ (ps : List Part) (i : Nat) (x : Int) : Rat := pev (ptv ps i) (x : Rat)
section
variable {ps qs : List Part}
end
def prv (p : Int × Int) : Rat := (p.1 : Rat) * (p.2 : Rat)⁻¹
structure PrS (p : Int × Int) (b : Nat) : Prop where
  n : Sm p.1 b
  d : Sm p.2 b
  ne : p.2 ≠ 0
theorem PrS.up {p : Int × Int} {b c : Nat} (h : PrS p b) (l : b ≤ c) : PrS p c := ⟨h.n.up l, h.d.up l, h.ne⟩
end Pd
set_option maxHeartbeats 2000000
namespace Pd
open PySem PySem.Spec L2
theorem FrS.tight {f : Fr} {b c : Nat} {p : Int × Int} (h : FrS f b) (hp : PrS p c) (e : fv f = prv p) : FrS f c := by
  obtain ⟨v, g, k⟩ := frac_mk hp.ne hp.n hp.d
  rw [fv_inj h g (by rw [e, k, Rat.div_def]; rfl)]
  exact g
section
variable {o : Opr} {m n e L : Nat} {W : Int}
end
structure RwS (r : Rw) (u : Nat → Int × Int) (T c L s m n : Nat) (W : Int) (e : Nat) : Prop where
  op : OPV r.operator m n W e
  ln : r.operator.coefs.length = L + 1
  ini : r.initial.length = s
  frs : ∀ f ∈ r.initial, FrS f c
  val : ∀ i : Nat, i < s → fv (gt r.initial (i : Int)) = prv (u i)
  sz : ∀ i : Nat, i < T → PrS (u i) c
  big : L ≤ s
  rcr : ∀ N : Nat, s ≤ N + L → N + L < T → apl (cv_ r.operator) (fun j => prv (u (N + j))) (N : Int) (L + 1) = 0
  nz : ∀ N : Nat, s ≤ N + L → cv_ r.operator L (N : Int) ≠ 0
section
variable {r : Rw} {u : Nat → Int × Int} {T c L s m n e : Nat} {W : Int}
end
end Pd
set_option maxHeartbeats 2000000
namespace Pd
open PySem PySem.Spec L2
theorem pev_pt (a : Part) (x : Int) : pev (pt a) (x : Rat) = (a.2 : Rat)⁻¹ * (hz x a.1 : Rat) := by
  unfold pt
  rw [pev_mul (Pl.c _) (Pl.lv _), pev_c, pev_lv]
structure SqS (ps : List Part) (vs : List (Int × Int)) (count L : Nat) : Prop where
  pl : PL ps 3 5 16
  len : ps.length = L + 1
  l2 : L ≤ 2
  vl : vs.length = count
  vp : ∀ p ∈ vs, PrS p 400
  rc : ∀ N : Nat, N + L < count → apl (pcv_ ps) (fun j => prv (gt vs ((N + j : Nat) : Int))) (N : Int) (L + 1) = 0
  ld : ∀ x : Int, 5 ≤ x → hz x (gt ps (L : Int)).1 ≠ 0
theorem pcv_get {ps : List Part} {i : Nat} {a : Part} (h : ps[i]? = some a) (x : Int) : pcv_ ps i x = (a.2 : Rat)⁻¹ * (hz x a.1 : Rat) := by
  unfold pcv_
  rw [ptv_some h, pev_pt]
end Pd
set_option maxHeartbeats 2000000
namespace Pd
open PySem PySem.Spec L2
theorem SqS.lead {ps : List Part} {vs : List (Int × Int)} {count L : Nat} (h : SqS ps vs count L) (x : Int) : pcv_ ps L x = ((gt ps (L : Int)).2 : Rat)⁻¹ * (hz x (gt ps (L : Int)).1 : Rat) ∧ (pcv_ ps L x = 0 ↔ hz x (gt ps (L : Int)).1 = 0) := by
  have hln := h.len
  obtain ⟨m1, m2⟩ := gt_memG (xs := ps) (k := L) (by omega)
  have e := pcv_get m2 x
  refine ⟨e, ?_⟩
  rw [e]
  have dn := ic_ne (h.pl.p _ m1).1.ne
  constructor
  · intro z
    refine ic_eq ?_
    rw [show ((0 : Int) : Rat) = 0 from rfl]
    generalize (hz x (gt ps (L : Int)).1 : Rat) = u at *
    generalize ((gt ps (L : Int)).2 : Rat) = d at *
    have k := Rat.mul_inv_cancel _ dn
    generalize d⁻¹ = e at *
    grind
  · intro z
    rw [z, show ((0 : Int) : Rat) = 0 from rfl, Rat.mul_zero]
theorem SqS.cut {ps : List Part} {vs : List (Int × Int)} {count L : Nat} (h : SqS ps vs count L) : Cut ps := fun _ z => by
  have e := h.len
  rw [e, Nat.add_sub_cancel] at z
  have k := (h.lead 5).2.mp (by unfold pcv_; rw [z, pev_zero])
  exact h.ld 5 (by omega) k
end Pd
set_option maxHeartbeats 2000000
namespace Pd
open PySem PySem.Spec L2
theorem cv_zero {Q : Opr} {N n e i : Nat} {W : Int} (h : OPV Q N n W e) (z : ∀ x : Int, cv_ Q i x = 0) : pr Q.coefs i = 0 := ev_ext (h.rv.pl i) (Pl.c 0) fun x => by
  show cv_ Q i x = _
  rw [z]
  exact (pev_zero _).symm
theorem RwS.le {r : Rw} {u : Nat → Int × Int} {T T' c L s m n e : Nat} {W : Int} (h : RwS r u T c L s m n W e) (l : T' ≤ T) : RwS r u T' c L s m n W e :=
  ⟨h.op, h.ln, h.ini, h.frs, h.val, fun i hi => h.sz i (by omega), h.big, fun N h1 h2 => h.rcr N h1 (by omega), h.nz⟩
section
variable {r : Rw} {u U : Nat → Int × Int} {T c c' L s m n e : Nat} {W : Int}
end
end Pd
set_option maxHeartbeats 4000000
namespace G
open PySem PySem.Spec L2 Pd
theorem r_law_numbers_2 {j3 : Option Cel} {j4 : Option Cel} {j5 : Option Cel} {j6 : Option Cel} (script' : List Int) (count' : Int) (rest_here' : Int) (h : v_law_numbers_2 script' count' rest_here') : NxOk (b_law_numbers_0 [cD (qL qI script'), cD (qI count'), cD (qI rest_here'), j3, j4, j5, j6]) (fun (s : Int) w => ∃ (j3 : Option Cel) (j4 : Option Cel) (j5 : Option Cel) (j6 : Option Cel), w = [cD (qL qI script'), cD (qI count'), cD (qI s), j3, j4, j5, j6]) (q_law_numbers_2 script' count' rest_here') :=
  nx_st (ρ' := [cD (qL qI script'), cD (qI count'), cD (qI (gt script' (0 : Int))), _, _, _, _]) (st_set (ev_e2 ev_fro ev_c (g_ix (k := .fro) (e := qI) h)) rfl rfl) ⟨_, _, _, _, rfl⟩
theorem r_law_numbers_9 {j1 : Option Cel} {j5 : Option Cel} {j6 : Option Cel} (script' : List Int) (rest_here' : Int) (by_digits' : Bool) (numbers_here' : List Int) : NxOk (b_law_numbers_1 [cD (qL qI script'), j1, cD (qI rest_here'), cD (qB by_digits'), cO (numbers_here'.map qI), j5, j6]) (fun (s : Int × (List Int)) w => ∃ (j1 : Option Cel) (j5 : Option Cel) (j6 : Option Cel), w = [cD (qL qI script'), j1, cD (qI s.1), cD (qB by_digits'), cO (s.2.map qI), j5, j6]) (q_law_numbers_9 script' rest_here' by_digits' numbers_here') :=
  nx_st (ρ' := [cD (qL qI script'), _, cD (qI (Int.fdiv rest_here' (1000000 : Int))), cD (qB by_digits'), cO (numbers_here'.map qI), _, _]) (st_set (ev_e2 ev_fro ev_c (g_div (by decide))) rfl rfl) ⟨_, _, _, rfl⟩
theorem r_law_numbers_8 {j1 : Option Cel} {j5 : Option Cel} {j6 : Option Cel} (script' : List Int) (rest_here' : Int) (by_digits' : Bool) (numbers_here' : List Int) (h : v_law_numbers_8 script' rest_here' by_digits' numbers_here') : NxOk (b_law_numbers_2 [cD (qL qI script'), j1, cD (qI rest_here'), cD (qB by_digits'), cO (numbers_here'.map qI), j5, j6]) (fun (s : Int × (List Int)) w => ∃ (j1 : Option Cel) (j5 : Option Cel) (j6 : Option Cel), w = [cD (qL qI script'), j1, cD (qI s.1), cD (qB by_digits'), cO (s.2.map qI), j5, j6]) (q_law_numbers_8 script' rest_here' by_digits' numbers_here') :=
  NxOk.of (sq_nx (ρ' := [cD (qL qI script'), _, cD (qI rest_here'), cD (qB by_digits'), cO ((numbers_here' ++ [(Int.fmod rest_here' (1000000 : Int))]).map qI), _, _]) (st_appT (e := qI) rfl (ev_e2 ev_fro ev_c (g_mod (by decide))) rfl h rfl)) (r_law_numbers_9 script' rest_here' by_digits' (numbers_here' ++ [(Int.fmod rest_here' (1000000 : Int))]))
theorem r_law_numbers_12 {j1 : Option Cel} (script' : List Int) (rest_here' : Int) (by_digits' : Bool) (numbers_here' : List Int) (k' : Int) (cell' : Int) (h : v_law_numbers_12 script' rest_here' by_digits' numbers_here' k' cell') : NxOk (b_law_numbers_3 [cD (qL qI script'), j1, cD (qI rest_here'), cD (qB by_digits'), cO (numbers_here'.map qI), cD (qI k'), cD (qI cell')]) (fun (s : Int) w => ∃ (j1 : Option Cel) (j5 : Option Cel), w = [cD (qL qI script'), j1, cD (qI rest_here'), cD (qB by_digits'), cO (numbers_here'.map qI), j5, cD (qI s)]) (q_law_numbers_12 script' rest_here' by_digits' numbers_here' k' cell') :=
  nx_st (ρ' := [cD (qL qI script'), _, cD (qI rest_here'), cD (qB by_digits'), cO (numbers_here'.map qI), cD (qI k'), cD (qI ((gt script' (Int.fmod k' (script'.length : Int))) + ((7919 : Int) * k')))]) (st_set (ev_e2 (ev_e2 ev_fro (ev_e2 ev_fro (ev_e1 ev_fro (g_len (k := .fro))) (g_mod h.1)) (g_ix (k := .fro) (e := qI) h.2.1)) (ev_e2 ev_c ev_fro (g_mul h.2.2)) rfl) rfl rfl) ⟨_, _, rfl⟩
theorem r_law_numbers_14 {j1 : Option Cel} {j5 : Option Cel} (script' : List Int) (rest_here' : Int) (by_digits' : Bool) (numbers_here' : List Int) (cell' : Int) (h : v_law_numbers_14 script' rest_here' by_digits' numbers_here' cell') : NxOk (b_law_numbers_4 [cD (qL qI script'), j1, cD (qI rest_here'), cD (qB by_digits'), cO (numbers_here'.map qI), j5, cD (qI cell')]) (fun (s : Int × (List Int)) w => ∃ (j1 : Option Cel) (j5 : Option Cel) (j6 : Option Cel), w = [cD (qL qI script'), j1, cD (qI s.1), cD (qB by_digits'), cO (s.2.map qI), j5, j6]) (q_law_numbers_14 script' rest_here' by_digits' numbers_here' cell') :=
  nx_st (ρ' := [cD (qL qI script'), _, cD (qI rest_here'), cD (qB by_digits'), cO ((numbers_here' ++ [(Int.fmod (Int.fmod ((Int.fmod (cell' * (48271 : Int)) (2147483647 : Int)) * (69621 : Int)) (2147483629 : Int)) (1000000 : Int))]).map qI), _, cD (qI cell')]) (st_appT (e := qI) rfl (ev_e2 (ev_e2 (ev_e2 (ev_e2 (ev_e2 ev_fro ev_c (g_mul h.1)) ev_c (g_mod (by decide))) ev_c (g_mul h.2.1)) ev_c (g_mod (by decide))) ev_c (g_mod (by decide))) rfl h.2.2 rfl) ⟨_, _, _, rfl⟩
theorem r_law_numbers_11 {j1 : Option Cel} (script' : List Int) (rest_here' : Int) (by_digits' : Bool) (numbers_here' : List Int) (k' : Int) (cell' : Int) (h : v_law_numbers_11 script' rest_here' by_digits' numbers_here' k' cell') : NxOk (b_law_numbers_5 [cD (qL qI script'), j1, cD (qI rest_here'), cD (qB by_digits'), cO (numbers_here'.map qI), cD (qI k'), cD (qI cell')]) (fun (s : Int × (List Int)) w => ∃ (j1 : Option Cel) (j5 : Option Cel) (j6 : Option Cel), w = [cD (qL qI script'), j1, cD (qI s.1), cD (qB by_digits'), cO (s.2.map qI), j5, j6]) (q_law_numbers_11 script' rest_here' by_digits' numbers_here' k' cell') :=
  sq_NN (E := (fun (s : Int) w => ∃ (j1 : Option Cel) (j5 : Option Cel), w = [cD (qL qI script'), j1, cD (qI rest_here'), cD (qB by_digits'), cO (numbers_here'.map qI), j5, cD (qI s)])) (q := q_law_numbers_13 script' rest_here' by_digits' numbers_here' k' cell') (nx_if (tv_b (ev_e2 (ev_e1 ev_fro (g_len (k := .fro))) ev_c rfl)) (fun hb4 => r_law_numbers_12 script' rest_here' by_digits' numbers_here' k' cell' (h.1 hb4)) (fun hb4 => nx_next ⟨_, _, rfl⟩)) (fun w hw => by obtain ⟨_, _, rfl⟩ := hw; exact r_law_numbers_14 script' rest_here' by_digits' numbers_here' (q_law_numbers_13 script' rest_here' by_digits' numbers_here' k' cell') h.2)
theorem r_law_numbers_10 {j1 : Option Cel} {j6 : Option Cel} (script' : List Int) (rest_here' : Int) (by_digits' : Bool) (numbers_here' : List Int) (k' : Int) (h : v_law_numbers_10 script' rest_here' by_digits' numbers_here' k') : NxOk (b_law_numbers_6 [cD (qL qI script'), j1, cD (qI rest_here'), cD (qB by_digits'), cO (numbers_here'.map qI), cD (qI k'), j6]) (fun (s : Int × (List Int)) w => ∃ (j1 : Option Cel) (j5 : Option Cel) (j6 : Option Cel), w = [cD (qL qI script'), j1, cD (qI s.1), cD (qB by_digits'), cO (s.2.map qI), j5, j6]) (q_law_numbers_10 script' rest_here' by_digits' numbers_here' k') :=
  NxOk.of (sq_nx (ρ' := [cD (qL qI script'), _, cD (qI rest_here'), cD (qB by_digits'), cO (numbers_here'.map qI), cD (qI k'), cD (qI (13 : Int))]) (st_set ev_c rfl rfl)) (r_law_numbers_11 script' rest_here' by_digits' numbers_here' k' (13 : Int) h)
theorem r_law_numbers_7 {j1 : Option Cel} {j6 : Option Cel} (script' : List Int) (rest_here' : Int) (by_digits' : Bool) (numbers_here' : List Int) (k' : Int) (h : v_law_numbers_7 script' rest_here' by_digits' numbers_here' k') : NxOk (b_law_numbers_7 [cD (qL qI script'), j1, cD (qI rest_here'), cD (qB by_digits'), cO (numbers_here'.map qI), cD (qI k'), j6]) (fun (s : Int × (List Int)) w => ∃ (j1 : Option Cel) (j5 : Option Cel) (j6 : Option Cel), w = [cD (qL qI script'), j1, cD (qI s.1), cD (qB by_digits'), cO (s.2.map qI), j5, j6]) (q_law_numbers_7 script' rest_here' by_digits' numbers_here' k') :=
  nx_if (tv_and (tv_tru ev_fro rfl) (fun hb2 => tv_b (ev_e2 ev_fro ev_c rfl))) (fun hb3 => r_law_numbers_8 script' rest_here' by_digits' numbers_here' (h.1 hb3)) (fun hb3 => r_law_numbers_10 script' rest_here' by_digits' numbers_here' k' (h.2 hb3))
theorem r_law_numbers_16 {j0 : Option Cel} {j1 : Option Cel} {j2 : Option Cel} {j3 : Option Cel} {j5 : Option Cel} {j6 : Option Cel} (numbers_here' : List Int) : RtOk (b_law_numbers_8 [j0, j1, j2, j3, cO (numbers_here'.map qI), j5, j6]) (fun r x => x = .own (r.map qI)) (q_law_numbers_16 numbers_here') :=
  rt_retO rfl rfl
theorem r_law_numbers_6 {j5 : Option Cel} {j6 : Option Cel} (script' : List Int) (count' : Int) (rest_here' : Int) (by_digits' : Bool) (numbers_here' : List Int) (h : v_law_numbers_6 script' count' rest_here' by_digits' numbers_here') : RtOk (b_law_numbers_9 [cD (qL qI script'), cD (qI count'), cD (qI rest_here'), cD (qB by_digits'), cO (numbers_here'.map qI), j5, j6]) (fun r x => x = .own (r.map qI)) (q_law_numbers_6 script' count' rest_here' by_digits' numbers_here') :=
  sq_NR (E := (fun (s : Int × (List Int)) w => ∃ (j1 : Option Cel) (j5 : Option Cel) (j6 : Option Cel), w = [cD (qL qI script'), j1, cD (qI s.1), cD (qB by_digits'), cO (s.2.map qI), j5, j6])) (q := q_law_numbers_15 script' count' rest_here' by_digits' numbers_here') (NxOk.of (sfor_eq (iv_r1 ev_fro h.1)) (for_N (E := (fun (s : Int × (List Int)) w => ∃ (j1 : Option Cel) (j5 : Option Cel) (j6 : Option Cel), w = [cD (qL qI script'), j1, cD (qI s.1), cD (qB by_digits'), cO (s.2.map qI), j5, j6])) (V := fun (s5 : Int × (List Int)) (x6 : Int) => v_law_numbers_7 script' s5.1 by_digits' s5.2 x6) (f := fun (s5 : Int × (List Int)) (x6 : Int) => q_law_numbers_7 script' s5.1 by_digits' s5.2 x6) (e := qI) (fun s5 x6 ρ hρ hv7 => by obtain ⟨_, _, _, rfl⟩ := hρ; exact ⟨_, rfl, r_law_numbers_7 script' s5.1 by_digits' s5.2 x6 hv7⟩) (rngT 0 count') (rest_here', numbers_here') _ ⟨_, _, _, rfl⟩ h.2)) (fun w hw => by obtain ⟨_, _, _, rfl⟩ := hw; exact r_law_numbers_16 ((q_law_numbers_15 script' count' rest_here' by_digits' numbers_here').2))
theorem r_law_numbers_5 {j4 : Option Cel} {j5 : Option Cel} {j6 : Option Cel} (script' : List Int) (count' : Int) (rest_here' : Int) (by_digits' : Bool) (h : v_law_numbers_5 script' count' rest_here' by_digits') : RtOk (b_law_numbers_10 [cD (qL qI script'), cD (qI count'), cD (qI rest_here'), cD (qB by_digits'), j4, j5, j6]) (fun r x => x = .own (r.map qI)) (q_law_numbers_5 script' count' rest_here' by_digits') :=
  RtOk.of (sq_nx (ρ' := [cD (qL qI script'), cD (qI count'), cD (qI rest_here'), cD (qB by_digits'), cO (([] : List Int).map qI), _, _]) (st_set (ev_lst av_nil) rfl rfl)) (r_law_numbers_6 script' count' rest_here' by_digits' ([] : List Int) h)
theorem r_law_numbers_4 {j3 : Option Cel} {j4 : Option Cel} {j5 : Option Cel} {j6 : Option Cel} (script' : List Int) (count' : Int) (rest_here' : Int) (h : v_law_numbers_4 script' count' rest_here') : RtOk (b_law_numbers_11 [cD (qL qI script'), cD (qI count'), cD (qI rest_here'), j3, j4, j5, j6]) (fun r x => x = .own (r.map qI)) (q_law_numbers_4 script' count' rest_here') :=
  RtOk.of (sq_nx (ρ' := [cD (qL qI script'), cD (qI count'), cD (qI rest_here'), cD (qB (decide (rest_here' ≥ (1000000000000000000 : Int)))), _, _, _]) (st_set (ev_e2 ev_fro (ev_e2 ev_c ev_c (g_powl (k := 1000000000000000000) (by decide) (by decide +kernel))) rfl) rfl rfl)) (r_law_numbers_5 script' count' rest_here' (decide (rest_here' ≥ (1000000000000000000 : Int))) h)
theorem r_law_numbers_1 {j3 : Option Cel} {j4 : Option Cel} {j5 : Option Cel} {j6 : Option Cel} (script' : List Int) (count' : Int) (rest_here' : Int) (h : v_law_numbers_1 script' count' rest_here') : RtOk (b_law_numbers_12 [cD (qL qI script'), cD (qI count'), cD (qI rest_here'), j3, j4, j5, j6]) (fun r x => x = .own (r.map qI)) (q_law_numbers_1 script' count' rest_here') :=
  sq_NR (E := (fun (s : Int) w => ∃ (j3 : Option Cel) (j4 : Option Cel) (j5 : Option Cel) (j6 : Option Cel), w = [cD (qL qI script'), cD (qI count'), cD (qI s), j3, j4, j5, j6])) (q := q_law_numbers_3 script' count' rest_here') (nx_if (tv_b (ev_e2 (ev_e1 ev_fro (g_len (k := .fro))) ev_c rfl)) (fun hb1 => r_law_numbers_2 script' count' rest_here' (h.1 hb1)) (fun hb1 => nx_next ⟨_, _, _, _, rfl⟩)) (fun w hw => by obtain ⟨_, _, _, _, rfl⟩ := hw; exact r_law_numbers_4 script' count' (q_law_numbers_3 script' count' rest_here') h.2)
theorem r_law_numbers_0 {j2 : Option Cel} {j3 : Option Cel} {j4 : Option Cel} {j5 : Option Cel} {j6 : Option Cel} (script' : List Int) (count' : Int) (h : v_law_numbers_0 script' count') : RtOk (b_law_numbers_13 [cD (qL qI script'), cD (qI count'), j2, j3, j4, j5, j6]) (fun r x => x = .own (r.map qI)) (q_law_numbers_0 script' count') :=
  RtOk.of (sq_nx (ρ' := [cD (qL qI script'), cD (qI count'), cD (qI (0 : Int)), _, _, _, _]) (st_set ev_c rfl rfl)) (r_law_numbers_1 script' count' (0 : Int) h)
theorem r_law_numbers (script' : List Int) (count' : Int) (h : v_law_numbers script' count') : f_law_numbers [qL qI script', qI count'] = some (.ok (.own ((q_law_numbers script' count').map qI))) :=
  fn_O (r_law_numbers_0 script' count' h)
theorem r_law_coefs_4 {j2 : Option Cel} {j4 : Option Cel} {j5 : Option Cel} (numbers_here' : List Int) (start' : Int) (coefs_here' : List Int) (h : v_law_coefs_4 numbers_here' start' coefs_here') : NxOk (b_law_coefs_0 [cD (qL qI numbers_here'), cD (qI start'), j2, cO (coefs_here'.map qI), j4, j5]) (fun (s : (List Int)) w => ∃ (j2 : Option Cel) (j4 : Option Cel) (j5 : Option Cel), w = [cD (qL qI numbers_here'), cD (qI start'), j2, cO (s.map qI), j4, j5]) (q_law_coefs_4 numbers_here' start' coefs_here') :=
  nx_st (ρ' := [cD (qL qI numbers_here'), cD (qI start'), _, cO ((coefs_here' ++ [(0 : Int)]).map qI), _, _]) (st_appT (e := qI) rfl ev_c rfl h rfl) ⟨_, _, _, rfl⟩
theorem r_law_coefs_5 {j2 : Option Cel} {j4 : Option Cel} (numbers_here' : List Int) (start' : Int) (coefs_here' : List Int) (number' : Int) (h : v_law_coefs_5 numbers_here' start' coefs_here' number') : NxOk (b_law_coefs_1 [cD (qL qI numbers_here'), cD (qI start'), j2, cO (coefs_here'.map qI), j4, cD (qI number')]) (fun (s : (List Int)) w => ∃ (j2 : Option Cel) (j4 : Option Cel) (j5 : Option Cel), w = [cD (qL qI numbers_here'), cD (qI start'), j2, cO (s.map qI), j4, j5]) (q_law_coefs_5 numbers_here' start' coefs_here' number') :=
  nx_st (ρ' := [cD (qL qI numbers_here'), cD (qI start'), _, cO ((coefs_here' ++ [((Int.fmod (Int.fdiv number' (4 : Int)) (25 : Int)) - (12 : Int))]).map qI), _, cD (qI number')]) (st_appT (e := qI) rfl (ev_e2 (ev_e2 (ev_e2 ev_fro ev_c (g_div (by decide))) ev_c (g_mod (by decide))) ev_c rfl) rfl h rfl) ⟨_, _, _, rfl⟩
theorem r_law_coefs_3 {j2 : Option Cel} {j4 : Option Cel} (numbers_here' : List Int) (start' : Int) (coefs_here' : List Int) (number' : Int) (h : v_law_coefs_3 numbers_here' start' coefs_here' number') : NxOk (b_law_coefs_2 [cD (qL qI numbers_here'), cD (qI start'), j2, cO (coefs_here'.map qI), j4, cD (qI number')]) (fun (s : (List Int)) w => ∃ (j2 : Option Cel) (j4 : Option Cel) (j5 : Option Cel), w = [cD (qL qI numbers_here'), cD (qI start'), j2, cO (s.map qI), j4, j5]) (q_law_coefs_3 numbers_here' start' coefs_here' number') :=
  nx_if (tv_b (ev_e2 (ev_e2 ev_fro ev_c (g_mod (by decide))) ev_c g_eqI)) (fun hb1 => r_law_coefs_4 numbers_here' start' coefs_here' (h.1 hb1)) (fun hb1 => r_law_coefs_5 numbers_here' start' coefs_here' number' (h.2 hb1))
theorem r_law_coefs_2 {j2 : Option Cel} {j5 : Option Cel} (numbers_here' : List Int) (start' : Int) (coefs_here' : List Int) (k' : Int) (h : v_law_coefs_2 numbers_here' start' coefs_here' k') : NxOk (b_law_coefs_3 [cD (qL qI numbers_here'), cD (qI start'), j2, cO (coefs_here'.map qI), cD (qI k'), j5]) (fun (s : (List Int)) w => ∃ (j2 : Option Cel) (j4 : Option Cel) (j5 : Option Cel), w = [cD (qL qI numbers_here'), cD (qI start'), j2, cO (s.map qI), j4, j5]) (q_law_coefs_2 numbers_here' start' coefs_here' k') :=
  NxOk.of (sq_nx (ρ' := [cD (qL qI numbers_here'), cD (qI start'), _, cO (coefs_here'.map qI), cD (qI k'), cD (qI (gt numbers_here' (start' + k')))]) (st_set (ev_e2 ev_fro (ev_e2 ev_fro ev_fro rfl) (g_ix (k := .fro) (e := qI) h.1)) rfl rfl)) (r_law_coefs_3 numbers_here' start' coefs_here' (gt numbers_here' (start' + k')) h.2)
theorem r_law_coefs_7 {j0 : Option Cel} {j1 : Option Cel} {j2 : Option Cel} {j4 : Option Cel} {j5 : Option Cel} (coefs_here' : List Int) : RtOk (b_law_coefs_4 [j0, j1, j2, cO (coefs_here'.map qI), j4, j5]) (fun r x => x = .own (r.map qI)) (q_law_coefs_7 coefs_here') :=
  rt_retO rfl rfl
theorem r_law_coefs_1 {j4 : Option Cel} {j5 : Option Cel} (numbers_here' : List Int) (start' : Int) (size' : Int) (coefs_here' : List Int) (h : v_law_coefs_1 numbers_here' start' size' coefs_here') : RtOk (b_law_coefs_5 [cD (qL qI numbers_here'), cD (qI start'), cD (qI size'), cO (coefs_here'.map qI), j4, j5]) (fun r x => x = .own (r.map qI)) (q_law_coefs_1 numbers_here' start' size' coefs_here') :=
  sq_NR (E := (fun (s : (List Int)) w => ∃ (j2 : Option Cel) (j4 : Option Cel) (j5 : Option Cel), w = [cD (qL qI numbers_here'), cD (qI start'), j2, cO (s.map qI), j4, j5])) (q := q_law_coefs_6 numbers_here' start' size' coefs_here') (NxOk.of (sfor_eq (iv_r1 ev_fro h.1)) (for_N (E := (fun (s : (List Int)) w => ∃ (j2 : Option Cel) (j4 : Option Cel) (j5 : Option Cel), w = [cD (qL qI numbers_here'), cD (qI start'), j2, cO (s.map qI), j4, j5])) (V := fun (s2 : (List Int)) (x3 : Int) => v_law_coefs_2 numbers_here' start' s2 x3) (f := fun (s2 : (List Int)) (x3 : Int) => q_law_coefs_2 numbers_here' start' s2 x3) (e := qI) (fun s2 x3 ρ hρ hv4 => by obtain ⟨_, _, _, rfl⟩ := hρ; exact ⟨_, rfl, r_law_coefs_2 numbers_here' start' s2 x3 hv4⟩) (rngT 0 size') coefs_here' _ ⟨_, _, _, rfl⟩ h.2)) (fun w hw => by obtain ⟨_, _, _, rfl⟩ := hw; exact r_law_coefs_7 (q_law_coefs_6 numbers_here' start' size' coefs_here'))
theorem r_law_coefs_0 {j3 : Option Cel} {j4 : Option Cel} {j5 : Option Cel} (numbers_here' : List Int) (start' : Int) (size' : Int) (h : v_law_coefs_0 numbers_here' start' size') : RtOk (b_law_coefs_6 [cD (qL qI numbers_here'), cD (qI start'), cD (qI size'), j3, j4, j5]) (fun r x => x = .own (r.map qI)) (q_law_coefs_0 numbers_here' start' size') :=
  RtOk.of (sq_nx (ρ' := [cD (qL qI numbers_here'), cD (qI start'), cD (qI size'), cO (([] : List Int).map qI), _, _]) (st_set (ev_lst av_nil) rfl rfl)) (r_law_coefs_1 numbers_here' start' size' ([] : List Int) h)
theorem r_law_coefs (numbers_here' : List Int) (start' : Int) (size' : Int) (h : v_law_coefs numbers_here' start' size') : f_law_coefs [qL qI numbers_here', qI start', qI size'] = some (.ok (.own ((q_law_coefs numbers_here' start' size').map qI))) :=
  fn_O (r_law_coefs_0 numbers_here' start' size' h)
theorem r_law_product_3 {j3 : Option Cel} (a' : List Int) (b' : List Int) (result' : List Int) (i' : Int) (j' : Int) (h : v_law_product_3 a' b' result' i' j') : NxOk (b_law_product_0 [cD (qL qI a'), cD (qL qI b'), cO (result'.map qI), j3, cD (qI i'), cD (qI j')]) (fun (s : (List Int)) w => ∃ (j3 : Option Cel) (j5 : Option Cel), w = [cD (qL qI a'), cD (qL qI b'), cO (s.map qI), j3, cD (qI i'), j5]) (q_law_product_3 a' b' result' i' j') :=
  nx_st (ρ' := [cD (qL qI a'), cD (qL qI b'), cO ((setT result' (i' + j') ((gt result' (i' + j')) + ((gt a' i') * (gt b' j')))).map qI), _, cD (qI i'), cD (qI j')]) (st_ix (e := qI) rfl (ev_e2 (ev_e2 ev_own (ev_e2 ev_fro ev_fro rfl) (g_ix (k := .bor) (e := qI) h.1)) (ev_e2 (ev_e2 ev_fro ev_fro (g_ix (k := .fro) (e := qI) h.2.1)) (ev_e2 ev_fro ev_fro (g_ix (k := .fro) (e := qI) h.2.2.1)) (g_mul h.2.2.2.1)) rfl) rfl (ev_e2 ev_fro ev_fro rfl) h.2.2.2.2 rfl) ⟨_, _, rfl⟩
theorem r_law_product_2 {j3 : Option Cel} {j5 : Option Cel} (a' : List Int) (b' : List Int) (result' : List Int) (i' : Int) (h : v_law_product_2 a' b' result' i') : NxOk (b_law_product_1 [cD (qL qI a'), cD (qL qI b'), cO (result'.map qI), j3, cD (qI i'), j5]) (fun (s : (List Int)) w => ∃ (j3 : Option Cel) (j4 : Option Cel) (j5 : Option Cel), w = [cD (qL qI a'), cD (qL qI b'), cO (s.map qI), j3, j4, j5]) (q_law_product_2 a' b' result' i') :=
  NxOk.map (NxOk.of (sfor_eq (iv_r1 (ev_e1 ev_fro (g_len (k := .fro))) h.1)) (for_N (E := (fun (s : (List Int)) w => ∃ (j3 : Option Cel) (j5 : Option Cel), w = [cD (qL qI a'), cD (qL qI b'), cO (s.map qI), j3, cD (qI i'), j5])) (V := fun (s3 : (List Int)) (x4 : Int) => v_law_product_3 a' b' s3 i' x4) (f := fun (s3 : (List Int)) (x4 : Int) => q_law_product_3 a' b' s3 i' x4) (e := qI) (fun s3 x4 ρ hρ hv5 => by obtain ⟨_, _, rfl⟩ := hρ; exact ⟨_, rfl, r_law_product_3 a' b' s3 i' x4 hv5⟩) (rngT 0 (b'.length : Int)) result' _ ⟨_, _, rfl⟩ h.2)) (f := fun s6 => s6) (fun s w hw => by obtain ⟨_, _, rfl⟩ := hw; exact ⟨_, _, _, rfl⟩)
theorem r_law_product_5 {j0 : Option Cel} {j1 : Option Cel} {j3 : Option Cel} {j4 : Option Cel} {j5 : Option Cel} (result' : List Int) : RtOk (b_law_product_2 [j0, j1, cO (result'.map qI), j3, j4, j5]) (fun r x => x = .own (r.map qI)) (q_law_product_5 result') :=
  rt_retO rfl rfl
theorem r_law_product_1 {j3 : Option Cel} {j4 : Option Cel} {j5 : Option Cel} (a' : List Int) (b' : List Int) (result' : List Int) (h : v_law_product_1 a' b' result') : RtOk (b_law_product_3 [cD (qL qI a'), cD (qL qI b'), cO (result'.map qI), j3, j4, j5]) (fun r x => x = .own (r.map qI)) (q_law_product_1 a' b' result') :=
  sq_NR (E := (fun (s : (List Int)) w => ∃ (j3 : Option Cel) (j4 : Option Cel) (j5 : Option Cel), w = [cD (qL qI a'), cD (qL qI b'), cO (s.map qI), j3, j4, j5])) (q := q_law_product_4 a' b' result') (NxOk.of (sfor_eq (iv_r1 (ev_e1 ev_fro (g_len (k := .fro))) h.1)) (for_N (E := (fun (s : (List Int)) w => ∃ (j3 : Option Cel) (j4 : Option Cel) (j5 : Option Cel), w = [cD (qL qI a'), cD (qL qI b'), cO (s.map qI), j3, j4, j5])) (V := fun (s7 : (List Int)) (x8 : Int) => v_law_product_2 a' b' s7 x8) (f := fun (s7 : (List Int)) (x8 : Int) => q_law_product_2 a' b' s7 x8) (e := qI) (fun s7 x8 ρ hρ hv9 => by obtain ⟨_, _, _, rfl⟩ := hρ; exact ⟨_, rfl, r_law_product_2 a' b' s7 x8 hv9⟩) (rngT 0 (a'.length : Int)) result' _ ⟨_, _, _, rfl⟩ h.2)) (fun w hw => by obtain ⟨_, _, _, rfl⟩ := hw; exact r_law_product_5 (q_law_product_4 a' b' result'))
theorem r_law_product_0 {j2 : Option Cel} {j3 : Option Cel} {j4 : Option Cel} {j5 : Option Cel} (a' : List Int) (b' : List Int) (h : v_law_product_0 a' b') : RtOk (b_law_product_4 [cD (qL qI a'), cD (qL qI b'), j2, j3, j4, j5]) (fun r x => x = .own (r.map qI)) (q_law_product_0 a' b') :=
  RtOk.of (sq_nx (ρ' := [cD (qL qI a'), cD (qL qI b'), cO (((rngT 0 ((a'.length : Int) + (b'.length : Int))).map fun (x1 : Int) => (0 : Int)).map qI), _, _, _]) (st_set (ev_lc (e := qI) (e' := qI) (F := fun (x1 : Int) => (0 : Int)) (xs := rngT 0 ((a'.length : Int) + (b'.length : Int))) (iv_r1 (ev_e2 (ev_e1 ev_fro (g_len (k := .fro))) (ev_e1 ev_fro (g_len (k := .fro))) rfl) h.1) h.2.1 (fun x1 hx2 => ⟨[cD (qL qI a'), cD (qL qI b'), _, cD (qI x1), _, _], _, rfl, ev_c, rfl⟩)) rfl rfl)) (r_law_product_1 a' b' ((rngT 0 ((a'.length : Int) + (b'.length : Int))).map fun (x1 : Int) => (0 : Int)) h.2.2)
theorem r_law_product (a' : List Int) (b' : List Int) (h : v_law_product a' b') : f_law_product [qL qI a', qL qI b'] = some (.ok (.own ((q_law_product a' b').map qI))) :=
  fn_O (r_law_product_0 a' b' h)
theorem r_trimmed_2 (numbers' : List Int) (size' : Int) : NxOk (b_trimmed_0 [cD (qL qI numbers'), cD (qI size')]) (fun (s : Int) w => w = [cD (qL qI numbers'), cD (qI s)]) (q_trimmed_2 numbers' size') :=
  nx_st (ρ' := [cD (qL qI numbers'), cD (qI (size' - (1 : Int)))]) (st_aug rfl ev_c rfl rfl rfl) rfl
theorem r_trimmed_4 (numbers' : List Int) (size' : Int) : RtOk (b_trimmed_1 [cD (qL qI numbers'), cD (qI size')]) (fun r x => x = .own (r.map qI)) (q_trimmed_4 numbers' size') :=
  rt_ret (ev_sl (k := .fro) ev_fro ov_none (ov_some ev_fro)) rfl (by simp)
theorem r_trimmed_1 (numbers' : List Int) (size' : Int) (h : v_trimmed_1 numbers' size') : RtOk (b_trimmed_2 [cD (qL qI numbers'), cD (qI size')]) (fun r x => x = .own (r.map qI)) (q_trimmed_1 numbers' size') :=
  sq_NR (E := (fun (s : Int) w => w = [cD (qL qI numbers'), cD (qI s)])) (q := q_trimmed_3 numbers' size') (while_N (E := (fun (s : Int) w => w = [cD (qL qI numbers'), cD (qI s)])) (t' := fun (s1 : Int) => ((decide (s1 > (0 : Int))) && (decide ((gt numbers' (s1 - (1 : Int))) = (0 : Int))))) (Vt := fun (s1 : Int) => ((decide (s1 > (0 : Int))) = true → inR numbers' (s1 - (1 : Int)))) (f := fun (s1 : Int) => q_trimmed_2 numbers' s1) (V := fun (s1 : Int) => True) (fun s1 ρ hρ hv2 => by obtain rfl := hρ; exact tv_and (tv_b (ev_e2 ev_fro ev_c rfl)) (fun hb3 => tv_b (ev_e2 (ev_e2 ev_fro (ev_e2 ev_fro ev_c rfl) (g_ix (k := .fro) (e := qI) (hv2 hb3))) ev_c g_eqI))) (fun s1 ρ hρ hv2 _ => by obtain rfl := hρ; exact r_trimmed_2 numbers' s1) rfl h) (fun w hw => by obtain rfl := hw; exact r_trimmed_4 numbers' (q_trimmed_3 numbers' size'))
theorem r_trimmed_0 {j1 : Option Cel} (numbers' : List Int) (h : v_trimmed_0 numbers') : RtOk (b_trimmed_3 [cD (qL qI numbers'), j1]) (fun r x => x = .own (r.map qI)) (q_trimmed_0 numbers') :=
  RtOk.of (sq_nx (ρ' := [cD (qL qI numbers'), cD (qI (numbers'.length : Int))]) (st_set (ev_e1 ev_fro (g_len (k := .fro))) rfl rfl)) (r_trimmed_1 numbers' (numbers'.length : Int) h)
theorem r_trimmed (numbers' : List Int) (h : v_trimmed numbers') : f_trimmed [qL qI numbers'] = some (.ok (.own ((q_trimmed numbers').map qI))) :=
  fn_O (r_trimmed_0 numbers' h)
theorem r_content_2 {j0 : Option Cel} (divisor' : Int) (number' : Int) : NxOk (b_content_0 [j0, cD (qI divisor'), cD (qI number')]) (fun (s : Int) w => ∃ (j0 : Option Cel) (j2 : Option Cel), w = [j0, cD (qI s), j2]) (q_content_2 divisor' number') :=
  nx_st (ρ' := [_, cD (qI (Int.gcd divisor' number' : Int)), cD (qI number')]) (st_set (ev_e2 ev_fro ev_fro g_gcd) rfl rfl) ⟨_, _, rfl⟩
theorem r_content_4 {j0 : Option Cel} {j2 : Option Cel} (divisor' : Int) : RtOk (b_content_1 [j0, cD (qI divisor'), j2]) (fun r x => x = .fro (qI r)) (q_content_4 divisor') :=
  rt_retF rfl rfl
theorem r_content_1 {j2 : Option Cel} (numbers' : List Int) (divisor' : Int) : RtOk (b_content_2 [cD (qL qI numbers'), cD (qI divisor'), j2]) (fun r x => x = .fro (qI r)) (q_content_1 numbers' divisor') :=
  sq_NR (E := (fun (s : Int) w => ∃ (j0 : Option Cel) (j2 : Option Cel), w = [j0, cD (qI s), j2])) (q := q_content_3 numbers' divisor') (NxOk.of (sfor_eq (iv_k (k := .fro) ev_fro (by simp))) (for_N (E := (fun (s : Int) w => ∃ (j0 : Option Cel) (j2 : Option Cel), w = [j0, cD (qI s), j2])) (V := fun _ _ => True) (f := fun (s1 : Int) (x2 : Int) => q_content_2 s1 x2) (e := qI) (fun s1 x2 ρ hρ hv3 => by obtain ⟨_, _, rfl⟩ := hρ; exact ⟨_, rfl, r_content_2 s1 x2⟩) numbers' divisor' _ ⟨_, _, rfl⟩ (forV_true _ _))) (fun w hw => by obtain ⟨_, _, rfl⟩ := hw; exact r_content_4 (q_content_3 numbers' divisor'))
theorem r_content_0 {j1 : Option Cel} {j2 : Option Cel} (numbers' : List Int) : RtOk (b_content_3 [cD (qL qI numbers'), j1, j2]) (fun r x => x = .fro (qI r)) (q_content_0 numbers') :=
  RtOk.of (sq_nx (ρ' := [cD (qL qI numbers'), cD (qI (0 : Int)), _]) (st_set ev_c rfl rfl)) (r_content_1 numbers' (0 : Int))
theorem r_content (numbers' : List Int) : f_content [qL qI numbers'] = some (.ok (.fro (qI (q_content numbers')))) :=
  fn_F (e := qI) (r_content_0 numbers')
theorem r_Poly_init_4 {j1 : Option Cel} {j5 : Option Cel} (den' : Int) (numbers' : List Int) (divisor' : Int) : NxOk (b_Poly_init_1 [some (.mk 21 []), j1, cD (qI den'), cO (numbers'.map qI), cD (qI divisor'), j5]) (fun (s : Int) w => ∃ (j1 : Option Cel) (j5 : Option Cel), w = [some (.mk 21 []), j1, cD (qI den'), cO (numbers'.map qI), cD (qI s), j5]) (q_Poly_init_4 den' numbers' divisor') :=
  nx_st (ρ' := [some (.mk 21 []), _, cD (qI den'), cO (numbers'.map qI), cD (qI (-divisor')), _]) (st_set (ev_e1 ev_fro rfl) rfl rfl) ⟨_, _, rfl⟩
theorem r_Poly_init_7 {j1 : Option Cel} {j3 : Option Cel} {j5 : Option Cel} (den' : Int) (divisor' : Int) (sf_coefs : List Int) (h : v_Poly_init_7 den' divisor' sf_coefs) : NxOk (b_Poly_init_2 [some (.mk 21 [qV qI sf_coefs]), j1, cD (qI den'), j3, cD (qI divisor'), j5]) (fun (s : (List Int) × Int) w => ∃ (j1 : Option Cel) (j2 : Option Cel) (j3 : Option Cel) (j4 : Option Cel) (j5 : Option Cel), w = [some (.mk 21 [qV qI s.1, qI s.2]), j1, j2, j3, j4, j5]) (q_Poly_init_7 den' divisor' sf_coefs) :=
  nx_st (ρ' := [some (.mk 21 [qV qI sf_coefs, qI (Int.fdiv den' divisor')]), _, cD (qI den'), _, cD (qI divisor'), _]) (st_fld rfl (ev_e2 ev_fro ev_fro (g_div h)) rfl rfl rfl) ⟨_, _, _, _, _, rfl⟩
theorem r_Poly_init_6 {j1 : Option Cel} {j5 : Option Cel} (den' : Int) (numbers' : List Int) (divisor' : Int) (h : v_Poly_init_6 den' numbers' divisor') : NxOk (b_Poly_init_3 [some (.mk 21 []), j1, cD (qI den'), cO (numbers'.map qI), cD (qI divisor'), j5]) (fun (s : (List Int) × Int) w => ∃ (j1 : Option Cel) (j2 : Option Cel) (j3 : Option Cel) (j4 : Option Cel) (j5 : Option Cel), w = [some (.mk 21 [qV qI s.1, qI s.2]), j1, j2, j3, j4, j5]) (q_Poly_init_6 den' numbers' divisor') :=
  NxOk.of (sq_nx (ρ' := [some (.mk 21 [qV qI (numbers'.map fun (x3 : Int) => (Int.fdiv x3 divisor'))]), _, cD (qI den'), cO (numbers'.map qI), cD (qI divisor'), _]) (st_fld rfl (ev_bor (ρ' := [some (.mk 21 []), _, cD (qI den'), cD (qL qI numbers'), cD (qI divisor'), _]) rfl rfl (ev_e1 (ev_lc (e := qI) (e' := qI) (F := fun (x3 : Int) => (Int.fdiv x3 divisor')) (xs := numbers') (iv_k (k := .fro) ev_fro (by simp)) h.2.1 (fun x3 hx4 => ⟨[some (.mk 21 []), _, cD (qI den'), cD (qL qI numbers'), cD (qI divisor'), cD (qI x3)], _, rfl, ev_e2 ev_fro ev_fro (g_div (h.1 x3 hx4)), rfl⟩)) (g_tuple (k := .own))) (nl_fro (e := qV qI) _)) rfl rfl rfl)) (r_Poly_init_7 den' divisor' (numbers'.map fun (x3 : Int) => (Int.fdiv x3 divisor')) h.2.2)
theorem r_Poly_init_3 {j1 : Option Cel} {j5 : Option Cel} (den' : Int) (numbers' : List Int) (divisor' : Int) (h : v_Poly_init_3 den' numbers' divisor') : NxOk (b_Poly_init_4 [some (.mk 21 []), j1, cD (qI den'), cO (numbers'.map qI), cD (qI divisor'), j5]) (fun (s : (List Int) × Int) w => ∃ (j1 : Option Cel) (j2 : Option Cel) (j3 : Option Cel) (j4 : Option Cel) (j5 : Option Cel), w = [some (.mk 21 [qV qI s.1, qI s.2]), j1, j2, j3, j4, j5]) (q_Poly_init_3 den' numbers' divisor') :=
  sq_NN (E := (fun (s : Int) w => ∃ (j1 : Option Cel) (j5 : Option Cel), w = [some (.mk 21 []), j1, cD (qI den'), cO (numbers'.map qI), cD (qI s), j5])) (q := q_Poly_init_5 den' numbers' divisor') (nx_if (tv_b (ev_e2 ev_fro ev_c rfl)) (fun hb2 => r_Poly_init_4 den' numbers' divisor') (fun hb2 => nx_next ⟨_, _, rfl⟩)) (fun w hw => by obtain ⟨_, _, rfl⟩ := hw; exact r_Poly_init_6 den' numbers' (q_Poly_init_5 den' numbers' divisor') h)
theorem r_Poly_init_2 {j1 : Option Cel} {j4 : Option Cel} {j5 : Option Cel} (den' : Int) (numbers' : List Int) (h : v_Poly_init_2 den' numbers') : NxOk (b_Poly_init_5 [some (.mk 21 []), j1, cD (qI den'), cO (numbers'.map qI), j4, j5]) (fun (s : (List Int) × Int) w => ∃ (j1 : Option Cel) (j2 : Option Cel) (j3 : Option Cel) (j4 : Option Cel) (j5 : Option Cel), w = [some (.mk 21 [qV qI s.1, qI s.2]), j1, j2, j3, j4, j5]) (q_Poly_init_2 den' numbers') :=
  NxOk.of (sq_nx (ρ' := [some (.mk 21 []), _, cD (qI den'), cO (numbers'.map qI), cD (qI (Int.gcd (q_content numbers') den' : Int)), _]) (st_set (ev_bor (ρ' := [some (.mk 21 []), _, cD (qI den'), cD (qL qI numbers'), _, _]) rfl rfl (ev_e2 (ev_call (r_content numbers') (av_cons ev_fro rfl av_nil)) ev_fro g_gcd) (nl_fro (e := qI) _)) rfl rfl)) (r_Poly_init_3 den' numbers' (Int.gcd (q_content numbers') den' : Int) h)
theorem r_Poly_init_1 {j3 : Option Cel} {j4 : Option Cel} {j5 : Option Cel} (coefs' : List Int) (den' : Int) (h : v_Poly_init_1 coefs' den') : NxOk (b_Poly_init_6 [some (.mk 21 []), cD (qL qI coefs'), cD (qI den'), j3, j4, j5]) (fun (s : (List Int) × Int) w => ∃ (j1 : Option Cel) (j2 : Option Cel) (j3 : Option Cel) (j4 : Option Cel) (j5 : Option Cel), w = [some (.mk 21 [qV qI s.1, qI s.2]), j1, j2, j3, j4, j5]) (q_Poly_init_1 coefs' den') :=
  NxOk.of (sq_nx (ρ' := [some (.mk 21 []), cD (qL qI coefs'), cD (qI den'), cO ((q_trimmed coefs').map qI), _, _]) (st_set (ev_call (r_trimmed coefs' h.1) (av_cons (ev_e1 ev_fro (g_list (k := .fro))) rfl av_nil)) rfl rfl)) (r_Poly_init_2 den' (q_trimmed coefs') h.2)
theorem r_Poly_init_0 {j3 : Option Cel} {j4 : Option Cel} {j5 : Option Cel} (coefs' : List Int) (den' : Int) (h : v_Poly_init_0 coefs' den') : NxOk (b_Poly_init_7 [some (.mk 21 []), cD (qL qI coefs'), cD (qI den'), j3, j4, j5]) (fun (s : (List Int) × Int) w => ∃ (j1 : Option Cel) (j2 : Option Cel) (j3 : Option Cel) (j4 : Option Cel) (j5 : Option Cel), w = [some (.mk 21 [qV qI s.1, qI s.2]), j1, j2, j3, j4, j5]) (q_Poly_init_0 coefs' den') :=
  NxOk.of (sqi_f (tv_eq (tv_b (ev_e2 ev_fro ev_c g_eqI)) h.1)) (NxOk.of (sq_nx rfl) (r_Poly_init_1 coefs' den' h.2))
theorem r_Poly_init (coefs' : List Int) (den' : Int) (h : v_Poly_init coefs' den') : m_Poly [qL qI coefs', qI den'] = some (.ok (.fro (qPo (q_Poly_init coefs' den')))) :=
  fn_I (fs := [qV qI (q_Poly_init_0 coefs' den').1, qI (q_Poly_init_0 coefs' den').2]) (r_Poly_init_0 coefs' den' h) (fun ρ hρ => by obtain ⟨_, _, _, _, _, rfl⟩ := hρ; rfl)
theorem r_Poly_is_zero_0 (self' : Po) : RtOk (b_Poly_is_zero_0 [cD (qPo self')]) (fun r x => x = .fro (qB r)) (q_Poly_is_zero_0 self') :=
  rt_ret (ev_e2 (ev_e1 (ev_e1 ev_fro (by first | exact g_fld rfl rfl | exact g_attF rfl rfl)) g_lenV) ev_c g_eqI) rfl (by simp)
theorem r_Poly_is_zero (self' : Po) : f_Poly_is_zero [qPo self'] = some (.ok (.fro (qB (q_Poly_is_zero self')))) :=
  fn_F (e := qB) (r_Poly_is_zero_0 self')
theorem r_content_x2_2 {j0 : Option Cel} (divisor' : Int) (number' : Int) : NxOk (b_content_0 [j0, cD (qI divisor'), cD (qI number')]) (fun (s : Int) w => ∃ (j0 : Option Cel) (j2 : Option Cel), w = [j0, cD (qI s), j2]) (q_content_x2_2 divisor' number') :=
  nx_st (ρ' := [_, cD (qI (Int.gcd divisor' number' : Int)), cD (qI number')]) (st_set (ev_e2 ev_fro ev_fro g_gcd) rfl rfl) ⟨_, _, rfl⟩
theorem r_content_x2_4 {j0 : Option Cel} {j2 : Option Cel} (divisor' : Int) : RtOk (b_content_1 [j0, cD (qI divisor'), j2]) (fun r x => x = .fro (qI r)) (q_content_x2_4 divisor') :=
  rt_retF rfl rfl
theorem r_content_x2_1 {j2 : Option Cel} (numbers' : List Int) (divisor' : Int) : RtOk (b_content_2 [cD (qV qI numbers'), cD (qI divisor'), j2]) (fun r x => x = .fro (qI r)) (q_content_x2_1 numbers' divisor') :=
  sq_NR (E := (fun (s : Int) w => ∃ (j0 : Option Cel) (j2 : Option Cel), w = [j0, cD (qI s), j2])) (q := q_content_x2_3 numbers' divisor') (NxOk.of (sfor_eq (iv_v ev_fro)) (for_N (E := (fun (s : Int) w => ∃ (j0 : Option Cel) (j2 : Option Cel), w = [j0, cD (qI s), j2])) (V := fun _ _ => True) (f := fun (s1 : Int) (x2 : Int) => q_content_x2_2 s1 x2) (e := qI) (fun s1 x2 ρ hρ hv3 => by obtain ⟨_, _, rfl⟩ := hρ; exact ⟨_, rfl, r_content_x2_2 s1 x2⟩) numbers' divisor' _ ⟨_, _, rfl⟩ (forV_true _ _))) (fun w hw => by obtain ⟨_, _, rfl⟩ := hw; exact r_content_x2_4 (q_content_x2_3 numbers' divisor'))
theorem r_content_x2_0 {j1 : Option Cel} {j2 : Option Cel} (numbers' : List Int) : RtOk (b_content_3 [cD (qV qI numbers'), j1, j2]) (fun r x => x = .fro (qI r)) (q_content_x2_0 numbers') :=
  RtOk.of (sq_nx (ρ' := [cD (qV qI numbers'), cD (qI (0 : Int)), _]) (st_set ev_c rfl rfl)) (r_content_x2_1 numbers' (0 : Int))
theorem r_content_x2 (numbers' : List Int) : f_content [qV qI numbers'] = some (.ok (.fro (qI (q_content_x2 numbers')))) :=
  fn_F (e := qI) (r_content_x2_0 numbers')
theorem r_Poly_init_x2_4 {j1 : Option Cel} {j5 : Option Cel} (den' : Int) (numbers' : List Int) (divisor' : Int) : NxOk (b_Poly_init_1 [some (.mk 21 []), j1, cD (qI den'), cO (numbers'.map qI), cD (qI divisor'), j5]) (fun (s : Int) w => ∃ (j1 : Option Cel) (j5 : Option Cel), w = [some (.mk 21 []), j1, cD (qI den'), cO (numbers'.map qI), cD (qI s), j5]) (q_Poly_init_x2_4 den' numbers' divisor') :=
  nx_st (ρ' := [some (.mk 21 []), _, cD (qI den'), cO (numbers'.map qI), cD (qI (-divisor')), _]) (st_set (ev_e1 ev_fro rfl) rfl rfl) ⟨_, _, rfl⟩
theorem r_Poly_init_x2_7 {j1 : Option Cel} {j3 : Option Cel} {j5 : Option Cel} (den' : Int) (divisor' : Int) (sf_coefs : List Int) (h : v_Poly_init_x2_7 den' divisor' sf_coefs) : NxOk (b_Poly_init_2 [some (.mk 21 [qV qI sf_coefs]), j1, cD (qI den'), j3, cD (qI divisor'), j5]) (fun (s : (List Int) × Int) w => ∃ (j1 : Option Cel) (j2 : Option Cel) (j3 : Option Cel) (j4 : Option Cel) (j5 : Option Cel), w = [some (.mk 21 [qV qI s.1, qI s.2]), j1, j2, j3, j4, j5]) (q_Poly_init_x2_7 den' divisor' sf_coefs) :=
  nx_st (ρ' := [some (.mk 21 [qV qI sf_coefs, qI (Int.fdiv den' divisor')]), _, cD (qI den'), _, cD (qI divisor'), _]) (st_fld rfl (ev_e2 ev_fro ev_fro (g_div h)) rfl rfl rfl) ⟨_, _, _, _, _, rfl⟩
theorem r_Poly_init_x2_6 {j1 : Option Cel} {j5 : Option Cel} (den' : Int) (numbers' : List Int) (divisor' : Int) (h : v_Poly_init_x2_6 den' numbers' divisor') : NxOk (b_Poly_init_3 [some (.mk 21 []), j1, cD (qI den'), cO (numbers'.map qI), cD (qI divisor'), j5]) (fun (s : (List Int) × Int) w => ∃ (j1 : Option Cel) (j2 : Option Cel) (j3 : Option Cel) (j4 : Option Cel) (j5 : Option Cel), w = [some (.mk 21 [qV qI s.1, qI s.2]), j1, j2, j3, j4, j5]) (q_Poly_init_x2_6 den' numbers' divisor') :=
  NxOk.of (sq_nx (ρ' := [some (.mk 21 [qV qI (numbers'.map fun (x3 : Int) => (Int.fdiv x3 divisor'))]), _, cD (qI den'), cO (numbers'.map qI), cD (qI divisor'), _]) (st_fld rfl (ev_bor (ρ' := [some (.mk 21 []), _, cD (qI den'), cD (qL qI numbers'), cD (qI divisor'), _]) rfl rfl (ev_e1 (ev_lc (e := qI) (e' := qI) (F := fun (x3 : Int) => (Int.fdiv x3 divisor')) (xs := numbers') (iv_k (k := .fro) ev_fro (by simp)) h.2.1 (fun x3 hx4 => ⟨[some (.mk 21 []), _, cD (qI den'), cD (qL qI numbers'), cD (qI divisor'), cD (qI x3)], _, rfl, ev_e2 ev_fro ev_fro (g_div (h.1 x3 hx4)), rfl⟩)) (g_tuple (k := .own))) (nl_fro (e := qV qI) _)) rfl rfl rfl)) (r_Poly_init_x2_7 den' divisor' (numbers'.map fun (x3 : Int) => (Int.fdiv x3 divisor')) h.2.2)
theorem r_Poly_init_x2_3 {j1 : Option Cel} {j5 : Option Cel} (den' : Int) (numbers' : List Int) (divisor' : Int) (h : v_Poly_init_x2_3 den' numbers' divisor') : NxOk (b_Poly_init_4 [some (.mk 21 []), j1, cD (qI den'), cO (numbers'.map qI), cD (qI divisor'), j5]) (fun (s : (List Int) × Int) w => ∃ (j1 : Option Cel) (j2 : Option Cel) (j3 : Option Cel) (j4 : Option Cel) (j5 : Option Cel), w = [some (.mk 21 [qV qI s.1, qI s.2]), j1, j2, j3, j4, j5]) (q_Poly_init_x2_3 den' numbers' divisor') :=
  sq_NN (E := (fun (s : Int) w => ∃ (j1 : Option Cel) (j5 : Option Cel), w = [some (.mk 21 []), j1, cD (qI den'), cO (numbers'.map qI), cD (qI s), j5])) (q := q_Poly_init_x2_5 den' numbers' divisor') (nx_if (tv_b (ev_e2 ev_fro ev_c rfl)) (fun hb2 => r_Poly_init_x2_4 den' numbers' divisor') (fun hb2 => nx_next ⟨_, _, rfl⟩)) (fun w hw => by obtain ⟨_, _, rfl⟩ := hw; exact r_Poly_init_x2_6 den' numbers' (q_Poly_init_x2_5 den' numbers' divisor') h)
theorem r_Poly_init_x2_2 {j1 : Option Cel} {j4 : Option Cel} {j5 : Option Cel} (den' : Int) (numbers' : List Int) (h : v_Poly_init_x2_2 den' numbers') : NxOk (b_Poly_init_5 [some (.mk 21 []), j1, cD (qI den'), cO (numbers'.map qI), j4, j5]) (fun (s : (List Int) × Int) w => ∃ (j1 : Option Cel) (j2 : Option Cel) (j3 : Option Cel) (j4 : Option Cel) (j5 : Option Cel), w = [some (.mk 21 [qV qI s.1, qI s.2]), j1, j2, j3, j4, j5]) (q_Poly_init_x2_2 den' numbers') :=
  NxOk.of (sq_nx (ρ' := [some (.mk 21 []), _, cD (qI den'), cO (numbers'.map qI), cD (qI (Int.gcd (q_content numbers') den' : Int)), _]) (st_set (ev_bor (ρ' := [some (.mk 21 []), _, cD (qI den'), cD (qL qI numbers'), _, _]) rfl rfl (ev_e2 (ev_call (r_content numbers') (av_cons ev_fro rfl av_nil)) ev_fro g_gcd) (nl_fro (e := qI) _)) rfl rfl)) (r_Poly_init_x2_3 den' numbers' (Int.gcd (q_content numbers') den' : Int) h)
theorem r_Poly_init_x2_1 {j3 : Option Cel} {j4 : Option Cel} {j5 : Option Cel} (coefs' : List Int) (den' : Int) (h : v_Poly_init_x2_1 coefs' den') : NxOk (b_Poly_init_6 [some (.mk 21 []), cD (qV qI coefs'), cD (qI den'), j3, j4, j5]) (fun (s : (List Int) × Int) w => ∃ (j1 : Option Cel) (j2 : Option Cel) (j3 : Option Cel) (j4 : Option Cel) (j5 : Option Cel), w = [some (.mk 21 [qV qI s.1, qI s.2]), j1, j2, j3, j4, j5]) (q_Poly_init_x2_1 coefs' den') :=
  NxOk.of (sq_nx (ρ' := [some (.mk 21 []), cD (qV qI coefs'), cD (qI den'), cO ((q_trimmed coefs').map qI), _, _]) (st_set (ev_call (r_trimmed coefs' h.1) (av_cons (ev_e1 ev_fro rfl) rfl av_nil)) rfl rfl)) (r_Poly_init_x2_2 den' (q_trimmed coefs') h.2)
theorem r_Poly_init_x2_0 {j3 : Option Cel} {j4 : Option Cel} {j5 : Option Cel} (coefs' : List Int) (den' : Int) (h : v_Poly_init_x2_0 coefs' den') : NxOk (b_Poly_init_7 [some (.mk 21 []), cD (qV qI coefs'), cD (qI den'), j3, j4, j5]) (fun (s : (List Int) × Int) w => ∃ (j1 : Option Cel) (j2 : Option Cel) (j3 : Option Cel) (j4 : Option Cel) (j5 : Option Cel), w = [some (.mk 21 [qV qI s.1, qI s.2]), j1, j2, j3, j4, j5]) (q_Poly_init_x2_0 coefs' den') :=
  NxOk.of (sqi_f (tv_eq (tv_b (ev_e2 ev_fro ev_c g_eqI)) h.1)) (NxOk.of (sq_nx rfl) (r_Poly_init_x2_1 coefs' den' h.2))
theorem r_Poly_init_x2 (coefs' : List Int) (den' : Int) (h : v_Poly_init_x2 coefs' den') : m_Poly [qV qI coefs', qI den'] = some (.ok (.fro (qPo (q_Poly_init_x2 coefs' den')))) :=
  fn_I (fs := [qV qI (q_Poly_init_x2_0 coefs' den').1, qI (q_Poly_init_x2_0 coefs' den').2]) (r_Poly_init_x2_0 coefs' den' h) (fun ρ hρ => by obtain ⟨_, _, _, _, _, rfl⟩ := hρ; rfl)
theorem r_primitive_1 (p' : Po) : RtOk (b_primitive_0 [cD (qPo p')]) (fun r x => x = .fro (qPo r)) (q_primitive_1 p') :=
  rt_retF rfl rfl
theorem r_primitive_2 (p' : Po) (h : v_primitive_2 p') : RtOk (b_primitive_1 [cD (qPo p')]) (fun r x => x = .fro (qPo r)) (q_primitive_2 p') :=
  rt_ret (ev_call (r_Poly_init_x2 p'.coefs (q_content_x2 p'.coefs) h) (av_cons (ev_e1 ev_fro (by first | exact g_fld rfl rfl | exact g_attF rfl rfl)) rfl (av_cons (ev_call (r_content_x2 p'.coefs) (av_cons (ev_e1 ev_fro (by first | exact g_fld rfl rfl | exact g_attF rfl rfl)) rfl av_nil)) rfl av_nil))) rfl (by simp)
theorem r_primitive_0 (p' : Po) (h : v_primitive_0 p') : RtOk (b_primitive_2 [cD (qPo p')]) (fun r x => x = .fro (qPo r)) (q_primitive_0 p') :=
  rt_sif (tv_tru (ev_e1 ev_fro (g_attP (r_Poly_is_zero p') rfl rfl rfl)) rfl) (fun hb1 => rt_seq (r_primitive_1 p')) (fun hb1 => RtOk.of (sq_nx rfl) (r_primitive_2 p' (h hb1)))
theorem r_primitive (p' : Po) (h : v_primitive p') : f_primitive [qPo p'] = some (.ok (.fro (qPo (q_primitive p')))) :=
  fn_F (e := qPo) (r_primitive_0 p' h)
theorem r_divide_11 {j6 : Option Cel} {j11 : Option Cel} {j12 : Option Cel} (p' : Po) (q' : Po) (size' : Int) (lead' : Int) (rest' : List Int) (quotient' : List Int) (scale' : Int) (place' : Int) (top' : Int) (i' : Int) (h : v_divide_11 p' q' size' lead' rest' quotient' scale' place' top' i') : NxOk (b_divide_1 [cD (qPo p'), cD (qPo q'), cD (qI size'), cD (qI lead'), cO (rest'.map qI), cO (quotient'.map qI), j6, cD (qI scale'), cD (qI place'), cD (qI top'), cD (qI i'), j11, j12]) (fun (s : (List Int)) w => ∃ (j6 : Option Cel) (j10 : Option Cel) (j11 : Option Cel) (j12 : Option Cel), w = [cD (qPo p'), cD (qPo q'), cD (qI size'), cD (qI lead'), cO (s.map qI), cO (quotient'.map qI), j6, cD (qI scale'), cD (qI place'), cD (qI top'), j10, j11, j12]) (q_divide_11 p' q' size' lead' rest' quotient' scale' place' top' i') :=
  nx_st (ρ' := [cD (qPo p'), cD (qPo q'), cD (qI size'), cD (qI lead'), cO ((setT rest' (place' + i') ((gt rest' (place' + i')) - (top' * (gt q'.coefs i')))).map qI), cO (quotient'.map qI), _, cD (qI scale'), cD (qI place'), cD (qI top'), cD (qI i'), _, _]) (st_ix (e := qI) rfl (ev_e2 (ev_e2 ev_own (ev_e2 ev_fro ev_fro rfl) (g_ix (k := .bor) (e := qI) h.1)) (ev_e2 ev_fro (ev_e2 (ev_e1 ev_fro (by first | exact g_fld rfl rfl | exact g_attF rfl rfl)) ev_fro (g_ixV (e := qI) h.2.1)) (g_mul h.2.2.1)) rfl) rfl (ev_e2 ev_fro ev_fro rfl) h.2.2.2 rfl) ⟨_, _, _, _, rfl⟩
theorem r_divide_14 {j6 : Option Cel} {j8 : Option Cel} {j9 : Option Cel} {j10 : Option Cel} {j11 : Option Cel} {j12 : Option Cel} (p' : Po) (q' : Po) (size' : Int) (lead' : Int) (rest' : List Int) (quotient' : List Int) (scale' : Int) (h : v_divide_14 p' q' size' lead' rest' quotient' scale') : NxOk (b_divide_2 [cD (qPo p'), cD (qPo q'), cD (qI size'), cD (qI lead'), cO (rest'.map qI), cO (quotient'.map qI), j6, cD (qI scale'), j8, j9, j10, j11, j12]) (fun (s : (List Int) × (List Int) × Int) w => ∃ (j6 : Option Cel) (j8 : Option Cel) (j9 : Option Cel) (j10 : Option Cel) (j11 : Option Cel) (j12 : Option Cel), w = [cD (qPo p'), cD (qPo q'), cD (qI size'), cD (qI lead'), cO (s.1.map qI), cO (s.2.1.map qI), j6, cD (qI s.2.2), j8, j9, j10, j11, j12]) (q_divide_14 p' q' size' lead' rest' quotient' scale') :=
  nx_st (ρ' := [cD (qPo p'), cD (qPo q'), cD (qI size'), cD (qI lead'), cO (rest'.map qI), cO (quotient'.map qI), _, cD (qI (scale' * lead')), _, _, _, _, _]) (st_set (ev_e2 ev_fro ev_fro (g_mul h)) rfl rfl) ⟨_, _, _, _, _, _, rfl⟩
theorem r_divide_13 {j6 : Option Cel} {j10 : Option Cel} {j11 : Option Cel} {j12 : Option Cel} (p' : Po) (q' : Po) (size' : Int) (lead' : Int) (rest' : List Int) (quotient' : List Int) (scale' : Int) (place' : Int) (top' : Int) (h : v_divide_13 p' q' size' lead' rest' quotient' scale' place' top') : NxOk (b_divide_3 [cD (qPo p'), cD (qPo q'), cD (qI size'), cD (qI lead'), cO (rest'.map qI), cO (quotient'.map qI), j6, cD (qI scale'), cD (qI place'), cD (qI top'), j10, j11, j12]) (fun (s : (List Int) × (List Int) × Int) w => ∃ (j6 : Option Cel) (j8 : Option Cel) (j9 : Option Cel) (j10 : Option Cel) (j11 : Option Cel) (j12 : Option Cel), w = [cD (qPo p'), cD (qPo q'), cD (qI size'), cD (qI lead'), cO (s.1.map qI), cO (s.2.1.map qI), j6, cD (qI s.2.2), j8, j9, j10, j11, j12]) (q_divide_13 p' q' size' lead' rest' quotient' scale' place' top') :=
  NxOk.of (sq_nx (ρ' := [cD (qPo p'), cD (qPo q'), cD (qI size'), cD (qI lead'), cO (rest'.map qI), cO ((setT quotient' place' ((gt quotient' place') + top')).map qI), _, cD (qI scale'), cD (qI place'), cD (qI top'), _, _, _]) (st_ix (e := qI) rfl (ev_e2 (ev_e2 ev_own ev_fro (g_ix (k := .bor) (e := qI) h.1)) ev_fro rfl) rfl ev_fro h.2.1 rfl)) (r_divide_14 p' q' size' lead' rest' (setT quotient' place' ((gt quotient' place') + top')) scale' h.2.2)
theorem r_divide_10 {j6 : Option Cel} {j10 : Option Cel} {j11 : Option Cel} {j12 : Option Cel} (p' : Po) (q' : Po) (size' : Int) (lead' : Int) (rest' : List Int) (quotient' : List Int) (scale' : Int) (place' : Int) (top' : Int) (h : v_divide_10 p' q' size' lead' rest' quotient' scale' place' top') : NxOk (b_divide_4 [cD (qPo p'), cD (qPo q'), cD (qI size'), cD (qI lead'), cO (rest'.map qI), cO (quotient'.map qI), j6, cD (qI scale'), cD (qI place'), cD (qI top'), j10, j11, j12]) (fun (s : (List Int) × (List Int) × Int) w => ∃ (j6 : Option Cel) (j8 : Option Cel) (j9 : Option Cel) (j10 : Option Cel) (j11 : Option Cel) (j12 : Option Cel), w = [cD (qPo p'), cD (qPo q'), cD (qI size'), cD (qI lead'), cO (s.1.map qI), cO (s.2.1.map qI), j6, cD (qI s.2.2), j8, j9, j10, j11, j12]) (q_divide_10 p' q' size' lead' rest' quotient' scale' place' top') :=
  sq_NN (E := (fun (s : (List Int)) w => ∃ (j6 : Option Cel) (j10 : Option Cel) (j11 : Option Cel) (j12 : Option Cel), w = [cD (qPo p'), cD (qPo q'), cD (qI size'), cD (qI lead'), cO (s.map qI), cO (quotient'.map qI), j6, cD (qI scale'), cD (qI place'), cD (qI top'), j10, j11, j12])) (q := q_divide_12 p' q' size' lead' rest' quotient' scale' place' top') (NxOk.of (sfor_eq (iv_r1 ev_fro h.1)) (for_N (E := (fun (s : (List Int)) w => ∃ (j6 : Option Cel) (j10 : Option Cel) (j11 : Option Cel) (j12 : Option Cel), w = [cD (qPo p'), cD (qPo q'), cD (qI size'), cD (qI lead'), cO (s.map qI), cO (quotient'.map qI), j6, cD (qI scale'), cD (qI place'), cD (qI top'), j10, j11, j12])) (V := fun (s8 : (List Int)) (x9 : Int) => v_divide_11 p' q' size' lead' s8 quotient' scale' place' top' x9) (f := fun (s8 : (List Int)) (x9 : Int) => q_divide_11 p' q' size' lead' s8 quotient' scale' place' top' x9) (e := qI) (fun s8 x9 ρ hρ hv10 => by obtain ⟨_, _, _, _, rfl⟩ := hρ; exact ⟨_, rfl, r_divide_11 p' q' size' lead' s8 quotient' scale' place' top' x9 hv10⟩) (rngT 0 size') rest' _ ⟨_, _, _, _, rfl⟩ h.2.1)) (fun w hw => by obtain ⟨_, _, _, _, rfl⟩ := hw; exact r_divide_13 p' q' size' lead' (q_divide_12 p' q' size' lead' rest' quotient' scale' place' top') quotient' scale' place' top' h.2.2)
theorem r_divide_9 {j6 : Option Cel} {j10 : Option Cel} {j11 : Option Cel} {j12 : Option Cel} (p' : Po) (q' : Po) (size' : Int) (lead' : Int) (rest' : List Int) (quotient' : List Int) (scale' : Int) (place' : Int) (top' : Int) (h : v_divide_9 p' q' size' lead' rest' quotient' scale' place' top') : NxOk (b_divide_5 [cD (qPo p'), cD (qPo q'), cD (qI size'), cD (qI lead'), cO (rest'.map qI), cO (quotient'.map qI), j6, cD (qI scale'), cD (qI place'), cD (qI top'), j10, j11, j12]) (fun (s : (List Int) × (List Int) × Int) w => ∃ (j6 : Option Cel) (j8 : Option Cel) (j9 : Option Cel) (j10 : Option Cel) (j11 : Option Cel) (j12 : Option Cel), w = [cD (qPo p'), cD (qPo q'), cD (qI size'), cD (qI lead'), cO (s.1.map qI), cO (s.2.1.map qI), j6, cD (qI s.2.2), j8, j9, j10, j11, j12]) (q_divide_9 p' q' size' lead' rest' quotient' scale' place' top') :=
  NxOk.of (sq_nx (ρ' := [cD (qPo p'), cD (qPo q'), cD (qI size'), cD (qI lead'), cO (rest'.map qI), cO ((quotient'.map fun (x6 : Int) => (lead' * x6)).map qI), _, cD (qI scale'), cD (qI place'), cD (qI top'), _, _, _]) (fz_own (ρ' := [cD (qPo p'), cD (qPo q'), cD (qI size'), cD (qI lead'), cO (rest'.map qI), cD (qL qI quotient'), _, cD (qI scale'), cD (qI place'), cD (qI top'), _, _, _]) rfl rfl (st_set (ev_lc (e := qI) (e' := qI) (F := fun (x6 : Int) => (lead' * x6)) (xs := quotient') (iv_k (k := .fro) ev_fro (by simp)) h.2.1 (fun x6 hx7 => ⟨[cD (qPo p'), cD (qPo q'), cD (qI size'), cD (qI lead'), cO (rest'.map qI), cD (qL qI quotient'), _, cD (qI scale'), cD (qI place'), cD (qI top'), _, cD (qI x6), _], _, rfl, ev_e2 ev_fro ev_fro (g_mul (h.1 x6 hx7)), rfl⟩)) rfl rfl))) (r_divide_10 p' q' size' lead' rest' (quotient'.map fun (x6 : Int) => (lead' * x6)) scale' place' top' h.2.2)
theorem r_divide_8 {j6 : Option Cel} {j10 : Option Cel} {j11 : Option Cel} {j12 : Option Cel} (p' : Po) (q' : Po) (size' : Int) (lead' : Int) (rest' : List Int) (quotient' : List Int) (scale' : Int) (place' : Int) (top' : Int) (h : v_divide_8 p' q' size' lead' rest' quotient' scale' place' top') : NxOk (b_divide_6 [cD (qPo p'), cD (qPo q'), cD (qI size'), cD (qI lead'), cO (rest'.map qI), cO (quotient'.map qI), j6, cD (qI scale'), cD (qI place'), cD (qI top'), j10, j11, j12]) (fun (s : (List Int) × (List Int) × Int) w => ∃ (j6 : Option Cel) (j8 : Option Cel) (j9 : Option Cel) (j10 : Option Cel) (j11 : Option Cel) (j12 : Option Cel), w = [cD (qPo p'), cD (qPo q'), cD (qI size'), cD (qI lead'), cO (s.1.map qI), cO (s.2.1.map qI), j6, cD (qI s.2.2), j8, j9, j10, j11, j12]) (q_divide_8 p' q' size' lead' rest' quotient' scale' place' top') :=
  NxOk.of (sq_nx (ρ' := [cD (qPo p'), cD (qPo q'), cD (qI size'), cD (qI lead'), cO ((rest'.map fun (x4 : Int) => (lead' * x4)).map qI), cO (quotient'.map qI), _, cD (qI scale'), cD (qI place'), cD (qI top'), _, _, _]) (fz_own (ρ' := [cD (qPo p'), cD (qPo q'), cD (qI size'), cD (qI lead'), cD (qL qI rest'), cO (quotient'.map qI), _, cD (qI scale'), cD (qI place'), cD (qI top'), _, _, _]) rfl rfl (st_set (ev_lc (e := qI) (e' := qI) (F := fun (x4 : Int) => (lead' * x4)) (xs := rest') (iv_k (k := .fro) ev_fro (by simp)) h.2.1 (fun x4 hx5 => ⟨[cD (qPo p'), cD (qPo q'), cD (qI size'), cD (qI lead'), cD (qL qI rest'), cO (quotient'.map qI), _, cD (qI scale'), cD (qI place'), cD (qI top'), _, cD (qI x4), _], _, rfl, ev_e2 ev_fro ev_fro (g_mul (h.1 x4 hx5)), rfl⟩)) rfl rfl))) (r_divide_9 p' q' size' lead' (rest'.map fun (x4 : Int) => (lead' * x4)) quotient' scale' place' top' h.2.2)
theorem r_divide_7 {j6 : Option Cel} {j9 : Option Cel} {j10 : Option Cel} {j11 : Option Cel} {j12 : Option Cel} (p' : Po) (q' : Po) (size' : Int) (lead' : Int) (rest' : List Int) (quotient' : List Int) (scale' : Int) (place' : Int) (h : v_divide_7 p' q' size' lead' rest' quotient' scale' place') : NxOk (b_divide_7 [cD (qPo p'), cD (qPo q'), cD (qI size'), cD (qI lead'), cO (rest'.map qI), cO (quotient'.map qI), j6, cD (qI scale'), cD (qI place'), j9, j10, j11, j12]) (fun (s : (List Int) × (List Int) × Int) w => ∃ (j6 : Option Cel) (j8 : Option Cel) (j9 : Option Cel) (j10 : Option Cel) (j11 : Option Cel) (j12 : Option Cel), w = [cD (qPo p'), cD (qPo q'), cD (qI size'), cD (qI lead'), cO (s.1.map qI), cO (s.2.1.map qI), j6, cD (qI s.2.2), j8, j9, j10, j11, j12]) (q_divide_7 p' q' size' lead' rest' quotient' scale' place') :=
  NxOk.of (sq_nx (ρ' := [cD (qPo p'), cD (qPo q'), cD (qI size'), cD (qI lead'), cO (rest'.map qI), cO (quotient'.map qI), _, cD (qI scale'), cD (qI place'), cD (qI (gt rest' ((place' + size') - (1 : Int)))), _, _, _]) (st_set (ev_e2 ev_own (ev_e2 (ev_e2 ev_fro ev_fro rfl) ev_c rfl) (g_ix (k := .bor) (e := qI) h.1)) rfl rfl)) (r_divide_8 p' q' size' lead' rest' quotient' scale' place' (gt rest' ((place' + size') - (1 : Int))) h.2)
theorem r_divide_17 {j0 : Option Cel} {j2 : Option Cel} {j3 : Option Cel} {j6 : Option Cel} {j7 : Option Cel} {j8 : Option Cel} {j9 : Option Cel} {j10 : Option Cel} {j11 : Option Cel} (q' : Po) (rest' : List Int) (quotient' : List Int) (den' : Int) (h : v_divide_17 q' rest' quotient' den') : RtOk (b_divide_8 [j0, cD (qPo q'), j2, j3, cO (rest'.map qI), cO (quotient'.map qI), j6, j7, j8, j9, j10, j11, cD (qI den')]) (fun r x => x = .fro (qT2 qPo qPo r)) (q_divide_17 q' rest' quotient' den') :=
  rt_ret (ev_bor (ρ' := [_, cD (qPo q'), _, _, cD (qL qI rest'), cO (quotient'.map qI), _, _, _, _, _, _, cD (qI den')]) rfl rfl (ev_bor (ρ' := [_, cD (qPo q'), _, _, cD (qL qI rest'), cD (qL qI quotient'), _, _, _, _, _, _, cD (qI den')]) rfl rfl (ev_tup (av_cons (ev_call (r_Poly_init (quotient'.map fun (x14 : Int) => (x14 * q'.den)) den' h.2.2.1) (av_cons (ev_lc (e := qI) (e' := qI) (F := fun (x14 : Int) => (x14 * q'.den)) (xs := quotient') (iv_k (k := .fro) ev_fro (by simp)) h.2.1 (fun x14 hx15 => ⟨[_, cD (qPo q'), _, _, cD (qL qI rest'), cD (qL qI quotient'), _, _, _, _, _, cD (qI x14), cD (qI den')], _, rfl, ev_e2 ev_fro (ev_e1 ev_fro (by first | exact g_fld rfl rfl | exact g_attF rfl rfl)) (g_mul (h.1 x14 hx15)), rfl⟩)) rfl (av_cons ev_fro rfl av_nil))) rfl (av_cons (ev_call (r_Poly_init rest' den' h.2.2.2) (av_cons ev_fro rfl (av_cons ev_fro rfl av_nil))) rfl av_nil)) (Nat.le_of_ble_eq_true rfl)) (nl_fro (e := qT2 qPo qPo) ((q_Poly_init (quotient'.map fun (x14 : Int) => (x14 * q'.den)) den', q_Poly_init rest' den')))) (nl_fro (e := qT2 qPo qPo) ((q_Poly_init (quotient'.map fun (x14 : Int) => (x14 * q'.den)) den', q_Poly_init rest' den')))) rfl (by simp)
theorem r_divide_16 {j2 : Option Cel} {j3 : Option Cel} {j6 : Option Cel} {j8 : Option Cel} {j9 : Option Cel} {j10 : Option Cel} {j11 : Option Cel} {j12 : Option Cel} (p' : Po) (q' : Po) (rest' : List Int) (quotient' : List Int) (scale' : Int) (h : v_divide_16 p' q' rest' quotient' scale') : RtOk (b_divide_9 [cD (qPo p'), cD (qPo q'), j2, j3, cO (rest'.map qI), cO (quotient'.map qI), j6, cD (qI scale'), j8, j9, j10, j11, j12]) (fun r x => x = .fro (qT2 qPo qPo r)) (q_divide_16 p' q' rest' quotient' scale') :=
  RtOk.of (sq_nx (ρ' := [cD (qPo p'), cD (qPo q'), _, _, cO (rest'.map qI), cO (quotient'.map qI), _, cD (qI scale'), _, _, _, _, cD (qI (scale' * p'.den))]) (st_set (ev_e2 ev_fro (ev_e1 ev_fro (by first | exact g_fld rfl rfl | exact g_attF rfl rfl)) (g_mul h.1)) rfl rfl)) (r_divide_17 q' rest' quotient' (scale' * p'.den) h.2)
theorem r_divide_6 {j6 : Option Cel} {j8 : Option Cel} {j9 : Option Cel} {j10 : Option Cel} {j11 : Option Cel} {j12 : Option Cel} (p' : Po) (q' : Po) (size' : Int) (lead' : Int) (rest' : List Int) (quotient' : List Int) (scale' : Int) (h : v_divide_6 p' q' size' lead' rest' quotient' scale') : RtOk (b_divide_10 [cD (qPo p'), cD (qPo q'), cD (qI size'), cD (qI lead'), cO (rest'.map qI), cO (quotient'.map qI), j6, cD (qI scale'), j8, j9, j10, j11, j12]) (fun r x => x = .fro (qT2 qPo qPo r)) (q_divide_6 p' q' size' lead' rest' quotient' scale') :=
  sq_NR (E := (fun (s : (List Int) × (List Int) × Int) w => ∃ (j6 : Option Cel) (j8 : Option Cel) (j9 : Option Cel) (j10 : Option Cel) (j11 : Option Cel) (j12 : Option Cel), w = [cD (qPo p'), cD (qPo q'), cD (qI size'), cD (qI lead'), cO (s.1.map qI), cO (s.2.1.map qI), j6, cD (qI s.2.2), j8, j9, j10, j11, j12])) (q := q_divide_15 p' q' size' lead' rest' quotient' scale') (NxOk.of (sfor_eq (iv_rD (ev_e2 (ev_e1 ev_own (g_len (k := .bor))) ev_c rfl) (ev_e1 ev_c rfl) h.1 (by decide))) (for_N (E := (fun (s : (List Int) × (List Int) × Int) w => ∃ (j6 : Option Cel) (j8 : Option Cel) (j9 : Option Cel) (j10 : Option Cel) (j11 : Option Cel) (j12 : Option Cel), w = [cD (qPo p'), cD (qPo q'), cD (qI size'), cD (qI lead'), cO (s.1.map qI), cO (s.2.1.map qI), j6, cD (qI s.2.2), j8, j9, j10, j11, j12])) (V := fun (s11 : (List Int) × (List Int) × Int) (x12 : Int) => v_divide_7 p' q' size' lead' s11.1 s11.2.1 s11.2.2 x12) (f := fun (s11 : (List Int) × (List Int) × Int) (x12 : Int) => q_divide_7 p' q' size' lead' s11.1 s11.2.1 s11.2.2 x12) (e := qI) (fun s11 x12 ρ hρ hv13 => by obtain ⟨_, _, _, _, _, _, rfl⟩ := hρ; exact ⟨_, rfl, r_divide_7 p' q' size' lead' s11.1 s11.2.1 s11.2.2 x12 hv13⟩) (rngDT ((quotient'.length : Int) - (1 : Int)) (-(1 : Int))) (rest', quotient', scale') _ ⟨_, _, _, _, _, _, rfl⟩ h.2.1)) (fun w hw => by obtain ⟨_, _, _, _, _, _, rfl⟩ := hw; exact r_divide_16 p' q' ((q_divide_15 p' q' size' lead' rest' quotient' scale').1) ((q_divide_15 p' q' size' lead' rest' quotient' scale').2.1) ((q_divide_15 p' q' size' lead' rest' quotient' scale').2.2) h.2.2)
theorem r_divide_5 {j6 : Option Cel} {j7 : Option Cel} {j8 : Option Cel} {j9 : Option Cel} {j10 : Option Cel} {j11 : Option Cel} {j12 : Option Cel} (p' : Po) (q' : Po) (size' : Int) (lead' : Int) (rest' : List Int) (quotient' : List Int) (h : v_divide_5 p' q' size' lead' rest' quotient') : RtOk (b_divide_11 [cD (qPo p'), cD (qPo q'), cD (qI size'), cD (qI lead'), cO (rest'.map qI), cO (quotient'.map qI), j6, j7, j8, j9, j10, j11, j12]) (fun r x => x = .fro (qT2 qPo qPo r)) (q_divide_5 p' q' size' lead' rest' quotient') :=
  RtOk.of (sq_nx (ρ' := [cD (qPo p'), cD (qPo q'), cD (qI size'), cD (qI lead'), cO (rest'.map qI), cO (quotient'.map qI), _, cD (qI (1 : Int)), _, _, _, _, _]) (st_set ev_c rfl rfl)) (r_divide_6 p' q' size' lead' rest' quotient' (1 : Int) h)
theorem r_divide_4 {j5 : Option Cel} {j6 : Option Cel} {j7 : Option Cel} {j8 : Option Cel} {j9 : Option Cel} {j10 : Option Cel} {j11 : Option Cel} {j12 : Option Cel} (p' : Po) (q' : Po) (size' : Int) (lead' : Int) (rest' : List Int) (h : v_divide_4 p' q' size' lead' rest') : RtOk (b_divide_12 [cD (qPo p'), cD (qPo q'), cD (qI size'), cD (qI lead'), cO (rest'.map qI), j5, j6, j7, j8, j9, j10, j11, j12]) (fun r x => x = .fro (qT2 qPo qPo r)) (q_divide_4 p' q' size' lead' rest') :=
  RtOk.of (sq_nx (ρ' := [cD (qPo p'), cD (qPo q'), cD (qI size'), cD (qI lead'), cO (rest'.map qI), cO (((rngT 0 (((rest'.length : Int) - size') + (1 : Int))).map fun (x2 : Int) => (0 : Int)).map qI), _, _, _, _, _, _, _]) (st_set (ev_lc (e := qI) (e' := qI) (F := fun (x2 : Int) => (0 : Int)) (xs := rngT 0 (((rest'.length : Int) - size') + (1 : Int))) (iv_r1 (ev_e2 (ev_e2 (ev_e1 ev_own (g_len (k := .bor))) ev_fro rfl) ev_c rfl) h.1) h.2.1 (fun x2 hx3 => ⟨[cD (qPo p'), cD (qPo q'), cD (qI size'), cD (qI lead'), cO (rest'.map qI), _, cD (qI x2), _, _, _, _, _, _], _, rfl, ev_c, rfl⟩)) rfl rfl)) (r_divide_5 p' q' size' lead' rest' ((rngT 0 (((rest'.length : Int) - size') + (1 : Int))).map fun (x2 : Int) => (0 : Int)) h.2.2)
theorem r_divide_3 {j4 : Option Cel} {j5 : Option Cel} {j6 : Option Cel} {j7 : Option Cel} {j8 : Option Cel} {j9 : Option Cel} {j10 : Option Cel} {j11 : Option Cel} {j12 : Option Cel} (p' : Po) (q' : Po) (size' : Int) (lead' : Int) (h : v_divide_3 p' q' size' lead') : RtOk (b_divide_13 [cD (qPo p'), cD (qPo q'), cD (qI size'), cD (qI lead'), j4, j5, j6, j7, j8, j9, j10, j11, j12]) (fun r x => x = .fro (qT2 qPo qPo r)) (q_divide_3 p' q' size' lead') :=
  RtOk.of (sq_nx (ρ' := [cD (qPo p'), cD (qPo q'), cD (qI size'), cD (qI lead'), cO (p'.coefs.map qI), _, _, _, _, _, _, _, _]) (st_set (ev_e1 (ev_e1 ev_fro (by first | exact g_fld rfl rfl | exact g_attF rfl rfl)) rfl) rfl rfl)) (r_divide_4 p' q' size' lead' p'.coefs h)
theorem r_divide_2 {j3 : Option Cel} {j4 : Option Cel} {j5 : Option Cel} {j6 : Option Cel} {j7 : Option Cel} {j8 : Option Cel} {j9 : Option Cel} {j10 : Option Cel} {j11 : Option Cel} {j12 : Option Cel} (p' : Po) (q' : Po) (size' : Int) (h : v_divide_2 p' q' size') : RtOk (b_divide_14 [cD (qPo p'), cD (qPo q'), cD (qI size'), j3, j4, j5, j6, j7, j8, j9, j10, j11, j12]) (fun r x => x = .fro (qT2 qPo qPo r)) (q_divide_2 p' q' size') :=
  RtOk.of (sq_nx (ρ' := [cD (qPo p'), cD (qPo q'), cD (qI size'), cD (qI (gt q'.coefs (size' - (1 : Int)))), _, _, _, _, _, _, _, _, _]) (st_set (ev_e2 (ev_e1 ev_fro (by first | exact g_fld rfl rfl | exact g_attF rfl rfl)) (ev_e2 ev_fro ev_c rfl) (g_ixV (e := qI) h.1)) rfl rfl)) (r_divide_3 p' q' size' (gt q'.coefs (size' - (1 : Int))) h.2)
theorem r_divide_1 {j2 : Option Cel} {j3 : Option Cel} {j4 : Option Cel} {j5 : Option Cel} {j6 : Option Cel} {j7 : Option Cel} {j8 : Option Cel} {j9 : Option Cel} {j10 : Option Cel} {j11 : Option Cel} {j12 : Option Cel} (p' : Po) (q' : Po) (h : v_divide_1 p' q') : RtOk (b_divide_15 [cD (qPo p'), cD (qPo q'), j2, j3, j4, j5, j6, j7, j8, j9, j10, j11, j12]) (fun r x => x = .fro (qT2 qPo qPo r)) (q_divide_1 p' q') :=
  RtOk.of (sq_nx (ρ' := [cD (qPo p'), cD (qPo q'), cD (qI (q'.coefs.length : Int)), _, _, _, _, _, _, _, _, _, _]) (st_set (ev_e1 (ev_e1 ev_fro (by first | exact g_fld rfl rfl | exact g_attF rfl rfl)) g_lenV) rfl rfl)) (r_divide_2 p' q' (q'.coefs.length : Int) h)
theorem r_divide_0 {j2 : Option Cel} {j3 : Option Cel} {j4 : Option Cel} {j5 : Option Cel} {j6 : Option Cel} {j7 : Option Cel} {j8 : Option Cel} {j9 : Option Cel} {j10 : Option Cel} {j11 : Option Cel} {j12 : Option Cel} (p' : Po) (q' : Po) (h : v_divide_0 p' q') : RtOk (b_divide_16 [cD (qPo p'), cD (qPo q'), j2, j3, j4, j5, j6, j7, j8, j9, j10, j11, j12]) (fun r x => x = .fro (qT2 qPo qPo r)) (q_divide_0 p' q') :=
  RtOk.of (sqi_f (tv_eq (tv_tru (ev_e1 ev_fro (g_attP (r_Poly_is_zero q') rfl rfl rfl)) rfl) h.1)) (RtOk.of (sq_nx rfl) (r_divide_1 p' q' h.2))
theorem r_divide (p' : Po) (q' : Po) (h : v_divide p' q') : f_divide [qPo p', qPo q'] = some (.ok (.fro (qT2 qPo qPo (q_divide p' q')))) :=
  fn_F (e := qT2 qPo qPo) (r_divide_0 p' q' h)
theorem r_Fraction_init_3 (num' : Int) (den' : Int) (divisor' : Int) : NxOk (b_Fraction_init_1 [some (.mk 20 []), cD (qI num'), cD (qI den'), cD (qI divisor')]) (fun (s : Int) w => w = [some (.mk 20 []), cD (qI num'), cD (qI den'), cD (qI s)]) (q_Fraction_init_3 num' den' divisor') :=
  nx_st (ρ' := [some (.mk 20 []), cD (qI num'), cD (qI den'), cD (qI (-divisor'))]) (st_set (ev_e1 ev_fro rfl) rfl rfl) rfl
theorem r_Fraction_init_6 {j1 : Option Cel} (den' : Int) (divisor' : Int) (sf_num : Int) (h : v_Fraction_init_6 den' divisor' sf_num) : NxOk (b_Fraction_init_2 [some (.mk 20 [qI sf_num]), j1, cD (qI den'), cD (qI divisor')]) (fun (s : Int × Int) w => ∃ (j1 : Option Cel) (j2 : Option Cel) (j3 : Option Cel), w = [some (.mk 20 [qI s.1, qI s.2]), j1, j2, j3]) (q_Fraction_init_6 den' divisor' sf_num) :=
  nx_st (ρ' := [some (.mk 20 [qI sf_num, qI (Int.fdiv den' divisor')]), _, cD (qI den'), cD (qI divisor')]) (st_fld rfl (ev_e2 ev_fro ev_fro (g_div h)) rfl rfl rfl) ⟨_, _, _, rfl⟩
theorem r_Fraction_init_5 (num' : Int) (den' : Int) (divisor' : Int) (h : v_Fraction_init_5 num' den' divisor') : NxOk (b_Fraction_init_3 [some (.mk 20 []), cD (qI num'), cD (qI den'), cD (qI divisor')]) (fun (s : Int × Int) w => ∃ (j1 : Option Cel) (j2 : Option Cel) (j3 : Option Cel), w = [some (.mk 20 [qI s.1, qI s.2]), j1, j2, j3]) (q_Fraction_init_5 num' den' divisor') :=
  NxOk.of (sq_nx (ρ' := [some (.mk 20 [qI (Int.fdiv num' divisor')]), cD (qI num'), cD (qI den'), cD (qI divisor')]) (st_fld rfl (ev_e2 ev_fro ev_fro (g_div h.1)) rfl rfl rfl)) (r_Fraction_init_6 den' divisor' (Int.fdiv num' divisor') h.2)
theorem r_Fraction_init_2 (num' : Int) (den' : Int) (divisor' : Int) (h : v_Fraction_init_2 num' den' divisor') : NxOk (b_Fraction_init_4 [some (.mk 20 []), cD (qI num'), cD (qI den'), cD (qI divisor')]) (fun (s : Int × Int) w => ∃ (j1 : Option Cel) (j2 : Option Cel) (j3 : Option Cel), w = [some (.mk 20 [qI s.1, qI s.2]), j1, j2, j3]) (q_Fraction_init_2 num' den' divisor') :=
  sq_NN (E := (fun (s : Int) w => w = [some (.mk 20 []), cD (qI num'), cD (qI den'), cD (qI s)])) (q := q_Fraction_init_4 num' den' divisor') (nx_if (tv_b (ev_e2 ev_fro ev_c rfl)) (fun hb2 => r_Fraction_init_3 num' den' divisor') (fun hb2 => nx_next rfl)) (fun w hw => by obtain rfl := hw; exact r_Fraction_init_5 num' den' (q_Fraction_init_4 num' den' divisor') h)
theorem r_Fraction_init_1 {j3 : Option Cel} (num' : Int) (den' : Int) (h : v_Fraction_init_1 num' den') : NxOk (b_Fraction_init_5 [some (.mk 20 []), cD (qI num'), cD (qI den'), j3]) (fun (s : Int × Int) w => ∃ (j1 : Option Cel) (j2 : Option Cel) (j3 : Option Cel), w = [some (.mk 20 [qI s.1, qI s.2]), j1, j2, j3]) (q_Fraction_init_1 num' den') :=
  NxOk.of (sq_nx (ρ' := [some (.mk 20 []), cD (qI num'), cD (qI den'), cD (qI (Int.gcd num' den' : Int))]) (st_set (ev_e2 ev_fro ev_fro g_gcd) rfl rfl)) (r_Fraction_init_2 num' den' (Int.gcd num' den' : Int) h)
theorem r_Fraction_init_0 {j3 : Option Cel} (num' : Int) (den' : Int) (h : v_Fraction_init_0 num' den') : NxOk (b_Fraction_init_6 [some (.mk 20 []), cD (qI num'), cD (qI den'), j3]) (fun (s : Int × Int) w => ∃ (j1 : Option Cel) (j2 : Option Cel) (j3 : Option Cel), w = [some (.mk 20 [qI s.1, qI s.2]), j1, j2, j3]) (q_Fraction_init_0 num' den') :=
  NxOk.of (sqi_f (tv_eq (tv_b (ev_e2 ev_fro ev_c g_eqI)) h.1)) (NxOk.of (sq_nx rfl) (r_Fraction_init_1 num' den' h.2))
theorem r_Fraction_init (num' : Int) (den' : Int) (h : v_Fraction_init num' den') : m_Fraction [qI num', qI den'] = some (.ok (.fro (qFr (q_Fraction_init num' den')))) :=
  fn_I (fs := [qI (q_Fraction_init_0 num' den').1, qI (q_Fraction_init_0 num' den').2]) (r_Fraction_init_0 num' den' h) (fun ρ hρ => by obtain ⟨_, _, _, rfl⟩ := hρ; rfl)
theorem r_Poly_lead_1 {j0 : Option Cel}  (h : v_Poly_lead_1) : RtOk (b_Poly_lead_0 [j0]) (fun r x => x = .fro (qFr r)) (q_Poly_lead_1) :=
  rt_ret (ev_call (r_Fraction_init (0 : Int) (1 : Int) h) (av_cons ev_c rfl av_nil)) rfl (by simp)
theorem r_Poly_lead_2 (self' : Po) (h : v_Poly_lead_2 self') : RtOk (b_Poly_lead_1 [cD (qPo self')]) (fun r x => x = .fro (qFr r)) (q_Poly_lead_2 self') :=
  rt_ret (ev_call (r_Fraction_init (gt self'.coefs (-(1 : Int))) self'.den h.2) (av_cons (ev_e2 (ev_e1 ev_fro (by first | exact g_fld rfl rfl | exact g_attF rfl rfl)) (ev_e1 ev_c rfl) (g_ixV (e := qI) h.1)) rfl (av_cons (ev_e1 ev_fro (by first | exact g_fld rfl rfl | exact g_attF rfl rfl)) rfl av_nil))) rfl (by simp)
theorem r_Poly_lead_0 (self' : Po) (h : v_Poly_lead_0 self') : RtOk (b_Poly_lead_2 [cD (qPo self')]) (fun r x => x = .fro (qFr r)) (q_Poly_lead_0 self') :=
  rt_sif (tv_b (ev_e2 (ev_e1 (ev_e1 ev_fro (by first | exact g_fld rfl rfl | exact g_attF rfl rfl)) g_lenV) ev_c g_eqI)) (fun hb1 => rt_seq (r_Poly_lead_1 (h.1 hb1))) (fun hb1 => RtOk.of (sq_nx rfl) (r_Poly_lead_2 self' (h.2 hb1)))
theorem r_Poly_lead (self' : Po) (h : v_Poly_lead self') : f_Poly_lead [qPo self'] = some (.ok (.fro (qFr (q_Poly_lead self')))) :=
  fn_F (e := qFr) (r_Poly_lead_0 self' h)
theorem r_Fraction_over_1 (self' : Fr) (other' : Fr) (h : v_Fraction_over_1 self' other') : RtOk (b_Fraction_over_1 [cD (qFr self'), cD (qFr other')]) (fun r x => x = .fro (qFr r)) (q_Fraction_over_1 self' other') :=
  rt_ret (ev_call (r_Fraction_init (self'.num * other'.den) (self'.den * other'.num) h.2.2) (av_cons (ev_e2 (ev_e1 ev_fro (by first | exact g_fld rfl rfl | exact g_attF rfl rfl)) (ev_e1 ev_fro (by first | exact g_fld rfl rfl | exact g_attF rfl rfl)) (g_mul h.1)) rfl (av_cons (ev_e2 (ev_e1 ev_fro (by first | exact g_fld rfl rfl | exact g_attF rfl rfl)) (ev_e1 ev_fro (by first | exact g_fld rfl rfl | exact g_attF rfl rfl)) (g_mul h.2.1)) rfl av_nil))) rfl (by simp)
theorem r_Fraction_over_0 (self' : Fr) (other' : Fr) (h : v_Fraction_over_0 self' other') : RtOk (b_Fraction_over_2 [cD (qFr self'), cD (qFr other')]) (fun r x => x = .fro (qFr r)) (q_Fraction_over_0 self' other') :=
  RtOk.of (sqi_f (tv_eq (tv_b (ev_e2 (ev_e1 ev_fro (by first | exact g_fld rfl rfl | exact g_attF rfl rfl)) ev_c g_eqI)) h.1)) (RtOk.of (sq_nx rfl) (r_Fraction_over_1 self' other' h.2))
theorem r_Fraction_over (self' : Fr) (other' : Fr) (h : v_Fraction_over self' other') : f_Fraction_over [qFr self', qFr other'] = some (.ok (.fro (qFr (q_Fraction_over self' other')))) :=
  fn_F (e := qFr) (r_Fraction_over_0 self' other' h)
theorem r_Poly_scaled_0 {j2 : Option Cel} (self' : Po) (factor' : Fr) (h : v_Poly_scaled_0 self' factor') : RtOk (b_Poly_scaled_0 [cD (qPo self'), cD (qFr factor'), j2]) (fun r x => x = .fro (qPo r)) (q_Poly_scaled_0 self' factor') :=
  rt_ret (ev_call (r_Poly_init (self'.coefs.map fun (x1 : Int) => (x1 * factor'.num)) (self'.den * factor'.den) h.2.2.2) (av_cons (ev_lc (e := qI) (e' := qI) (F := fun (x1 : Int) => (x1 * factor'.num)) (xs := self'.coefs) (iv_v (ev_e1 ev_fro (by first | exact g_fld rfl rfl | exact g_attF rfl rfl))) h.2.1 (fun x1 hx2 => ⟨[cD (qPo self'), cD (qFr factor'), cD (qI x1)], _, rfl, ev_e2 ev_fro (ev_e1 ev_fro (by first | exact g_fld rfl rfl | exact g_attF rfl rfl)) (g_mul (h.1 x1 hx2)), rfl⟩)) rfl (av_cons (ev_e2 (ev_e1 ev_fro (by first | exact g_fld rfl rfl | exact g_attF rfl rfl)) (ev_e1 ev_fro (by first | exact g_fld rfl rfl | exact g_attF rfl rfl)) (g_mul h.2.2.1)) rfl av_nil))) rfl (by simp)
theorem r_Poly_scaled (self' : Po) (factor' : Fr) (h : v_Poly_scaled self' factor') : f_Poly_scaled [qPo self', qFr factor'] = some (.ok (.fro (qPo (q_Poly_scaled self' factor')))) :=
  fn_F (e := qPo) (r_Poly_scaled_0 self' factor' h)
theorem r_monic_1 (p' : Po) : RtOk (b_monic_0 [cD (qPo p')]) (fun r x => x = .fro (qPo r)) (q_monic_1 p') :=
  rt_retF rfl rfl
theorem r_monic_2 (p' : Po) (h : v_monic_2 p') : RtOk (b_monic_1 [cD (qPo p')]) (fun r x => x = .fro (qPo r)) (q_monic_2 p') :=
  rt_ret (ev_meth (gD := (fun ds => ds)) (r_Poly_scaled p' (q_Fraction_over (q_Fraction_init (1 : Int) (1 : Int)) (q_Poly_lead p')) h.2.2.2) ev_fro (av_cons (ev_meth (gD := (fun ds => ds)) (r_Fraction_over (q_Fraction_init (1 : Int) (1 : Int)) (q_Poly_lead p') h.2.2.1) (ev_call (r_Fraction_init (1 : Int) (1 : Int) h.1) (av_cons ev_c rfl av_nil)) (av_cons (ev_e1 ev_fro (g_attP (r_Poly_lead p' h.2.1) rfl rfl rfl)) rfl av_nil) rfl rfl rfl) rfl av_nil) rfl rfl rfl) rfl (by simp)
theorem r_monic_0 (p' : Po) (h : v_monic_0 p') : RtOk (b_monic_2 [cD (qPo p')]) (fun r x => x = .fro (qPo r)) (q_monic_0 p') :=
  rt_sif (tv_tru (ev_e1 ev_fro (g_attP (r_Poly_is_zero p') rfl rfl rfl)) rfl) (fun hb1 => rt_seq (r_monic_1 p')) (fun hb1 => RtOk.of (sq_nx rfl) (r_monic_2 p' (h hb1)))
theorem r_monic (p' : Po) (h : v_monic p') : f_monic [qPo p'] = some (.ok (.fro (qPo (q_monic p')))) :=
  fn_F (e := qPo) (r_monic_0 p' h)
theorem r_common_divisor_5 {j0 : Option Cel} {j1 : Option Cel} (first' : Po) (second' : Po) (rest' : Po) (h : v_common_divisor_5 first' second' rest') : NxOk (b_common_divisor_0 [j0, j1, cD (qPo first'), cD (qPo second'), cD (qPo rest')]) (fun (s : Po × Po) w => ∃ (j0 : Option Cel) (j1 : Option Cel) (j4 : Option Cel), w = [j0, j1, cD (qPo s.1), cD (qPo s.2), j4]) (q_common_divisor_5 first' second' rest') :=
  nx_st (ρ' := [_, _, cD (qPo first'), cD (qPo (q_primitive rest')), cD (qPo rest')]) (st_set (ev_call (r_primitive rest' h) (av_cons ev_fro rfl av_nil)) rfl rfl) ⟨_, _, _, rfl⟩
theorem r_common_divisor_4 {j0 : Option Cel} {j1 : Option Cel} (first' : Po) (second' : Po) (rest' : Po) (h : v_common_divisor_4 first' second' rest') : NxOk (b_common_divisor_1 [j0, j1, cD (qPo first'), cD (qPo second'), cD (qPo rest')]) (fun (s : Po × Po) w => ∃ (j0 : Option Cel) (j1 : Option Cel) (j4 : Option Cel), w = [j0, j1, cD (qPo s.1), cD (qPo s.2), j4]) (q_common_divisor_4 first' second' rest') :=
  NxOk.of (sq_nx (ρ' := [_, _, cD (qPo second'), cD (qPo second'), cD (qPo rest')]) (st_set ev_fro rfl rfl)) (r_common_divisor_5 second' second' rest' h)
theorem r_common_divisor_3 {j0 : Option Cel} {j1 : Option Cel} {j4 : Option Cel} (first' : Po) (second' : Po) (h : v_common_divisor_3 first' second') : NxOk (b_common_divisor_2 [j0, j1, cD (qPo first'), cD (qPo second'), j4]) (fun (s : Po × Po) w => ∃ (j0 : Option Cel) (j1 : Option Cel) (j4 : Option Cel), w = [j0, j1, cD (qPo s.1), cD (qPo s.2), j4]) (q_common_divisor_3 first' second') :=
  NxOk.of (sq_nx (ρ' := [_, _, cD (qPo first'), cD (qPo second'), cD (qPo ((q_divide first' second').2))]) (st_set (ev_e2 (ev_call (r_divide first' second' h.1) (av_cons ev_fro rfl (av_cons ev_fro rfl av_nil))) ev_c rfl) rfl rfl)) (r_common_divisor_4 first' second' ((q_divide first' second').2) h.2)
theorem r_common_divisor_7 {j0 : Option Cel} {j1 : Option Cel} {j3 : Option Cel} {j4 : Option Cel} (first' : Po) (h : v_common_divisor_7 first') : RtOk (b_common_divisor_3 [j0, j1, cD (qPo first'), j3, j4]) (fun r x => x = .fro (qPo r)) (q_common_divisor_7 first') :=
  rt_ret (ev_call (r_monic first' h) (av_cons ev_fro rfl av_nil)) rfl (by simp)
theorem r_common_divisor_2 {j0 : Option Cel} {j1 : Option Cel} {j4 : Option Cel} (first' : Po) (second' : Po) (h : v_common_divisor_2 first' second') : RtOk (b_common_divisor_4 [j0, j1, cD (qPo first'), cD (qPo second'), j4]) (fun r x => x = .fro (qPo r)) (q_common_divisor_2 first' second') :=
  sq_NR (E := (fun (s : Po × Po) w => ∃ (j0 : Option Cel) (j1 : Option Cel) (j4 : Option Cel), w = [j0, j1, cD (qPo s.1), cD (qPo s.2), j4])) (q := q_common_divisor_6 first' second') (while_N (E := (fun (s : Po × Po) w => ∃ (j0 : Option Cel) (j1 : Option Cel) (j4 : Option Cel), w = [j0, j1, cD (qPo s.1), cD (qPo s.2), j4])) (t' := fun (s1 : Po × Po) => (!(q_Poly_is_zero s1.2))) (Vt := fun (s1 : Po × Po) => True) (f := fun (s1 : Po × Po) => q_common_divisor_3 s1.1 s1.2) (V := fun (s1 : Po × Po) => v_common_divisor_3 s1.1 s1.2) (fun s1 ρ hρ hv2 => by obtain ⟨_, _, _, rfl⟩ := hρ; exact tv_not (tv_tru (ev_e1 ev_fro (g_attP (r_Poly_is_zero s1.2) rfl rfl rfl)) rfl)) (fun s1 ρ hρ hv2 _ => by obtain ⟨_, _, _, rfl⟩ := hρ; exact r_common_divisor_3 s1.1 s1.2 hv2) ⟨_, _, _, rfl⟩ h.1) (fun w hw => by obtain ⟨_, _, _, rfl⟩ := hw; exact r_common_divisor_7 ((q_common_divisor_6 first' second').1) h.2)
theorem r_common_divisor_1 {j0 : Option Cel} {j3 : Option Cel} {j4 : Option Cel} (q' : Po) (first' : Po) (h : v_common_divisor_1 q' first') : RtOk (b_common_divisor_5 [j0, cD (qPo q'), cD (qPo first'), j3, j4]) (fun r x => x = .fro (qPo r)) (q_common_divisor_1 q' first') :=
  RtOk.of (sq_nx (ρ' := [_, cD (qPo q'), cD (qPo first'), cD (qPo (q_primitive q')), _]) (st_set (ev_call (r_primitive q' h.1) (av_cons ev_fro rfl av_nil)) rfl rfl)) (r_common_divisor_2 first' (q_primitive q') h.2)
theorem r_common_divisor_0 {j2 : Option Cel} {j3 : Option Cel} {j4 : Option Cel} (p' : Po) (q' : Po) (h : v_common_divisor_0 p' q') : RtOk (b_common_divisor_6 [cD (qPo p'), cD (qPo q'), j2, j3, j4]) (fun r x => x = .fro (qPo r)) (q_common_divisor_0 p' q') :=
  RtOk.of (sq_nx (ρ' := [cD (qPo p'), cD (qPo q'), cD (qPo (q_primitive p')), _, _]) (st_set (ev_call (r_primitive p' h.1) (av_cons ev_fro rfl av_nil)) rfl rfl)) (r_common_divisor_1 q' (q_primitive p') h.2)
theorem r_common_divisor (p' : Po) (q' : Po) (h : v_common_divisor p' q') : f_common_divisor [qPo p', qPo q'] = some (.ok (.fro (qPo (q_common_divisor p' q')))) :=
  fn_F (e := qPo) (r_common_divisor_0 p' q' h)
theorem r_law_is_integer_0 (x' : Int) : RtOk (b_law_is_integer_0 [cD (qI x')]) (fun r x => x = .fro (qB r)) (q_law_is_integer_0 x') :=
  rt_ret (ev_and (ev_e1 ev_fro rfl) (fun hb1 => ev_not (ev_e1 ev_fro rfl))) rfl (by simp)
theorem r_law_is_integer (x' : Int) : f_law_is_integer [qI x'] = some (.ok (.fro (qB (q_law_is_integer x')))) :=
  fn_F (e := qB) (r_law_is_integer_0 x')
theorem r_law_divisor_5 (a' : Int) (b' : Int) (rest_here' : Int) : NxOk (b_law_divisor_0 [cD (qI a'), cD (qI b'), cD (qI rest_here')]) (fun (s : Int × Int) w => ∃ (j2 : Option Cel), w = [cD (qI s.1), cD (qI s.2), j2]) (q_law_divisor_5 a' b' rest_here') :=
  nx_st (ρ' := [cD (qI a'), cD (qI rest_here'), cD (qI rest_here')]) (st_set ev_fro rfl rfl) ⟨_, rfl⟩
theorem r_law_divisor_4 (a' : Int) (b' : Int) (rest_here' : Int) : NxOk (b_law_divisor_1 [cD (qI a'), cD (qI b'), cD (qI rest_here')]) (fun (s : Int × Int) w => ∃ (j2 : Option Cel), w = [cD (qI s.1), cD (qI s.2), j2]) (q_law_divisor_4 a' b' rest_here') :=
  NxOk.of (sq_nx (ρ' := [cD (qI b'), cD (qI b'), cD (qI rest_here')]) (st_set ev_fro rfl rfl)) (r_law_divisor_5 b' b' rest_here')
theorem r_law_divisor_3 {j2 : Option Cel} (a' : Int) (b' : Int) (h : v_law_divisor_3 a' b') : NxOk (b_law_divisor_2 [cD (qI a'), cD (qI b'), j2]) (fun (s : Int × Int) w => ∃ (j2 : Option Cel), w = [cD (qI s.1), cD (qI s.2), j2]) (q_law_divisor_3 a' b') :=
  NxOk.of (sq_nx (ρ' := [cD (qI a'), cD (qI b'), cD (qI (Int.fmod a' b'))]) (st_set (ev_e2 (ev_e1 ev_fro rfl) ev_fro (g_mod h)) rfl rfl)) (r_law_divisor_4 a' b' (Int.fmod a' b'))
theorem r_law_divisor_7 {j1 : Option Cel} {j2 : Option Cel} (a' : Int) : RtOk (b_law_divisor_3 [cD (qI a'), j1, j2]) (fun r x => x = .fro (qI r)) (q_law_divisor_7 a') :=
  rt_retF rfl rfl
theorem r_law_divisor_2 {j2 : Option Cel} (a' : Int) (b' : Int) (h : v_law_divisor_2 a' b') : RtOk (b_law_divisor_4 [cD (qI a'), cD (qI b'), j2]) (fun r x => x = .fro (qI r)) (q_law_divisor_2 a' b') :=
  sq_NR (E := (fun (s : Int × Int) w => ∃ (j2 : Option Cel), w = [cD (qI s.1), cD (qI s.2), j2])) (q := q_law_divisor_6 a' b') (while_N (E := (fun (s : Int × Int) w => ∃ (j2 : Option Cel), w = [cD (qI s.1), cD (qI s.2), j2])) (t' := fun (s1 : Int × Int) => (decide (s1.2 > (0 : Int)))) (Vt := fun (s1 : Int × Int) => True) (f := fun (s1 : Int × Int) => q_law_divisor_3 s1.1 s1.2) (V := fun (s1 : Int × Int) => v_law_divisor_3 s1.1 s1.2) (fun s1 ρ hρ hv2 => by obtain ⟨_, rfl⟩ := hρ; exact tv_b (ev_e2 ev_fro ev_c rfl)) (fun s1 ρ hρ hv2 _ => by obtain ⟨_, rfl⟩ := hρ; exact r_law_divisor_3 s1.1 s1.2 hv2) ⟨_, rfl⟩ h) (fun w hw => by obtain ⟨_, rfl⟩ := hw; exact r_law_divisor_7 ((q_law_divisor_6 a' b').1))
theorem r_law_divisor_1 {j2 : Option Cel} (a' : Int) (b' : Int) (h : v_law_divisor_1 a' b') : RtOk (b_law_divisor_5 [cD (qI a'), cD (qI b'), j2]) (fun r x => x = .fro (qI r)) (q_law_divisor_1 a' b') :=
  RtOk.of (sq_nx (ρ' := [cD (qI a'), cD (qI (b'.natAbs : Int)), _]) (st_set (ev_e1 ev_fro g_abs) rfl rfl)) (r_law_divisor_2 a' (b'.natAbs : Int) h)
theorem r_law_divisor_0 {j2 : Option Cel} (a' : Int) (b' : Int) (h : v_law_divisor_0 a' b') : RtOk (b_law_divisor_6 [cD (qI a'), cD (qI b'), j2]) (fun r x => x = .fro (qI r)) (q_law_divisor_0 a' b') :=
  RtOk.of (sq_nx (ρ' := [cD (qI (a'.natAbs : Int)), cD (qI b'), _]) (st_set (ev_e1 ev_fro g_abs) rfl rfl)) (r_law_divisor_1 (a'.natAbs : Int) b' h)
theorem r_law_divisor (a' : Int) (b' : Int) (h : v_law_divisor a' b') : f_law_divisor [qI a', qI b'] = some (.ok (.fro (qI (q_law_divisor a' b')))) :=
  fn_F (e := qI) (r_law_divisor_0 a' b' h)
theorem r_law_poly_is_1 {j0 : Option Cel} {j1 : Option Cel} {j2 : Option Cel} {j3 : Option Cel} {j4 : Option Cel} {j5 : Option Cel} {j6 : Option Cel} {j7 : Option Cel} {j8 : Option Cel}  : RtOk (b_law_poly_is_0 [j0, j1, j2, j3, j4, j5, j6, j7, j8]) (fun r x => x = .fro (qB r)) (q_law_poly_is_1) :=
  rt_ret ev_c rfl (by simp)
theorem r_law_poly_is_5 {j0 : Option Cel} {j1 : Option Cel} {j2 : Option Cel} {j3 : Option Cel} {j4 : Option Cel} {j5 : Option Cel} {j6 : Option Cel} {j7 : Option Cel} {j8 : Option Cel}  : RtOk (b_law_poly_is_1 [j0, j1, j2, j3, j4, j5, j6, j7, j8]) (fun r x => x = .fro (qB r)) (q_law_poly_is_5) :=
  rt_ret ev_c rfl (by simp)
theorem r_law_poly_is_6 {j5 : Option Cel} {j6 : Option Cel} {j7 : Option Cel} {j8 : Option Cel} (p' : Po) (coefs_here' : List Int) (den' : Int) (shared' : Int) (number' : Int) (h : v_law_poly_is_6 p' coefs_here' den' shared' number') : NxOk (b_law_poly_is_2 [cD (qPo p'), cD (qL qI coefs_here'), cD (qI den'), cD (qI shared'), cD (qI number'), j5, j6, j7, j8]) (fun (s : Int) w => ∃ (j4 : Option Cel) (j5 : Option Cel) (j6 : Option Cel) (j7 : Option Cel) (j8 : Option Cel), w = [cD (qPo p'), cD (qL qI coefs_here'), cD (qI den'), cD (qI s), j4, j5, j6, j7, j8]) (q_law_poly_is_6 p' coefs_here' den' shared' number') :=
  nx_st (ρ' := [cD (qPo p'), cD (qL qI coefs_here'), cD (qI den'), cD (qI (q_law_divisor shared' number')), cD (qI number'), _, _, _, _]) (st_set (ev_call (r_law_divisor shared' number' h) (av_cons ev_fro rfl (av_cons ev_fro rfl av_nil))) rfl rfl) ⟨_, _, _, _, _, rfl⟩
theorem r_law_poly_is_4 {j5 : Option Cel} {j6 : Option Cel} {j7 : Option Cel} {j8 : Option Cel} (p' : Po) (coefs_here' : List Int) (den' : Int) (shared' : Int) (number' : Int) (h : v_law_poly_is_4 p' coefs_here' den' shared' number') : FlOk (b_law_poly_is_3 [cD (qPo p'), cD (qL qI coefs_here'), cD (qI den'), cD (qI shared'), cD (qI number'), j5, j6, j7, j8]) (fun (s : Int) w => ∃ (j4 : Option Cel) (j5 : Option Cel) (j6 : Option Cel) (j7 : Option Cel) (j8 : Option Cel), w = [cD (qPo p'), cD (qL qI coefs_here'), cD (qI den'), cD (qI s), j4, j5, j6, j7, j8]) (fun (s : Int) w => ∃ (j4 : Option Cel) (j5 : Option Cel) (j6 : Option Cel) (j7 : Option Cel) (j8 : Option Cel), w = [cD (qPo p'), cD (qL qI coefs_here'), cD (qI den'), cD (qI s), j4, j5, j6, j7, j8]) (fun r x => x = .fro (qB r)) (q_law_poly_is_4 p' coefs_here' den' shared' number') :=
  fl_sif (tv_not (tv_tru (ev_call (r_law_is_integer number') (av_cons ev_fro rfl av_nil)) rfl)) (fun hb5 => RtOk.fl (rt_seq r_law_poly_is_5)) (fun hb5 => NxOk.fl (NxOk.of (sq_nx rfl) (r_law_poly_is_6 p' coefs_here' den' shared' number' (h hb5))))
theorem r_law_poly_is_9 {j0 : Option Cel} {j1 : Option Cel} {j2 : Option Cel} {j3 : Option Cel} {j4 : Option Cel} {j5 : Option Cel} {j6 : Option Cel} {j7 : Option Cel} {j8 : Option Cel}  : RtOk (b_law_poly_is_4 [j0, j1, j2, j3, j4, j5, j6, j7, j8]) (fun r x => x = .fro (qB r)) (q_law_poly_is_9) :=
  rt_ret ev_c rfl (by simp)
theorem r_law_poly_is_15 {j0 : Option Cel} {j1 : Option Cel} {j2 : Option Cel} {j3 : Option Cel} {j4 : Option Cel} {j5 : Option Cel} {j6 : Option Cel} {j7 : Option Cel} {j8 : Option Cel}  : RtOk (b_law_poly_is_5 [j0, j1, j2, j3, j4, j5, j6, j7, j8]) (fun r x => x = .fro (qB r)) (q_law_poly_is_15) :=
  rt_ret ev_c rfl (by simp)
theorem r_law_poly_is_14 {j1 : Option Cel} {j3 : Option Cel} {j4 : Option Cel} {j5 : Option Cel} (p' : Po) (den' : Int) (mine' : List Int) (k' : Int) (due' : List Int) (h : v_law_poly_is_14 p' den' mine' k' due') : FlOk (b_law_poly_is_6 [cD (qPo p'), j1, cD (qI den'), j3, j4, j5, cO (mine'.map qI), cD (qI k'), cO (due'.map qI)]) (fun (s : Unit) w => ∃ (j1 : Option Cel) (j3 : Option Cel) (j4 : Option Cel) (j5 : Option Cel) (j7 : Option Cel), w = [cD (qPo p'), j1, cD (qI den'), j3, j4, j5, cO (mine'.map qI), j7, cO (due'.map qI)]) (fun (s : Unit) w => ∃ (j1 : Option Cel) (j3 : Option Cel) (j4 : Option Cel) (j5 : Option Cel) (j7 : Option Cel), w = [cD (qPo p'), j1, cD (qI den'), j3, j4, j5, cO (mine'.map qI), j7, cO (due'.map qI)]) (fun r x => x = .fro (qB r)) (q_law_poly_is_14 p' den' mine' k' due') :=
  fl_if (tv_b (ev_e2 (ev_e2 (ev_e2 ev_own ev_fro (g_ix (k := .bor) (e := qI) h.1)) ev_fro (g_mul h.2.1)) (ev_e2 (ev_e2 ev_own ev_fro (g_ix (k := .bor) (e := qI) h.2.2.1)) (ev_e1 ev_fro (by first | exact g_fld rfl rfl | exact g_attF rfl rfl)) (g_mul h.2.2.2)) g_neI)) (fun hb17 => RtOk.fl r_law_poly_is_15) (fun hb17 => NxOk.fl (nx_next ⟨_, _, _, _, _, rfl⟩))
theorem r_law_poly_is_17 {j0 : Option Cel} {j1 : Option Cel} {j2 : Option Cel} {j3 : Option Cel} {j4 : Option Cel} {j5 : Option Cel} {j6 : Option Cel} {j7 : Option Cel} {j8 : Option Cel}  : RtOk (b_law_poly_is_7 [j0, j1, j2, j3, j4, j5, j6, j7, j8]) (fun r x => x = .fro (qB r)) (q_law_poly_is_17) :=
  rt_ret ev_c rfl (by simp)
theorem r_law_poly_is_13 {j1 : Option Cel} {j3 : Option Cel} {j4 : Option Cel} {j7 : Option Cel} (p' : Po) (den' : Int) (size' : Int) (mine' : List Int) (due' : List Int) (h : v_law_poly_is_13 p' den' size' mine' due') : RtOk (b_law_poly_is_8 [cD (qPo p'), j1, cD (qI den'), j3, j4, cD (qI size'), cO (mine'.map qI), j7, cO (due'.map qI)]) (fun r x => x = .fro (qB r)) (q_law_poly_is_13 p' den' size' mine' due') :=
  sq_XR (E := (fun (s : Unit) w => ∃ (j1 : Option Cel) (j3 : Option Cel) (j4 : Option Cel) (j5 : Option Cel) (j7 : Option Cel), w = [cD (qPo p'), j1, cD (qI den'), j3, j4, j5, cO (mine'.map qI), j7, cO (due'.map qI)])) (B0 := (fun _ _ => False)) (q := q_law_poly_is_16 p' den' size' mine' due') (FlOk.of (sfor_eq (iv_r1 ev_fro h.1)) (for_X (E := (fun (s : Unit) w => ∃ (j1 : Option Cel) (j3 : Option Cel) (j4 : Option Cel) (j5 : Option Cel) (j7 : Option Cel), w = [cD (qPo p'), j1, cD (qI den'), j3, j4, j5, cO (mine'.map qI), j7, cO (due'.map qI)])) (V := fun (s18 : Unit) (x19 : Int) => v_law_poly_is_14 p' den' mine' x19 due') (f := fun (s18 : Unit) (x19 : Int) => q_law_poly_is_14 p' den' mine' x19 due') (e := qI) (fun s18 x19 ρ hρ hv20 => by obtain ⟨_, _, _, _, _, rfl⟩ := hρ; exact ⟨_, rfl, r_law_poly_is_14 p' den' mine' x19 due' hv20⟩) (rngT 0 size') () _ ⟨_, _, _, _, _, rfl⟩ h.2)) (fun s21 w hw hs22 => by obtain ⟨_, _, _, _, _, rfl⟩ := hw; exact r_law_poly_is_17)
theorem r_law_poly_is_12 {j3 : Option Cel} {j4 : Option Cel} {j7 : Option Cel} {j8 : Option Cel} (p' : Po) (coefs_here' : List Int) (den' : Int) (size' : Int) (mine' : List Int) (h : v_law_poly_is_12 p' coefs_here' den' size' mine') : RtOk (b_law_poly_is_9 [cD (qPo p'), cD (qL qI coefs_here'), cD (qI den'), j3, j4, cD (qI size'), cO (mine'.map qI), j7, j8]) (fun r x => x = .fro (qB r)) (q_law_poly_is_12 p' coefs_here' den' size' mine') :=
  RtOk.of (sq_nx (ρ' := [cD (qPo p'), cD (qL qI coefs_here'), cD (qI den'), _, _, cD (qI size'), cO (mine'.map qI), _, cO ((coefs_here' ++ ((rngT 0 (size' - (coefs_here'.length : Int))).map fun (x15 : Int) => (0 : Int))).map qI)]) (st_set (ev_e2 (ev_e1 ev_fro (g_list (k := .fro))) (ev_lc (e := qI) (e' := qI) (F := fun (x15 : Int) => (0 : Int)) (xs := rngT 0 (size' - (coefs_here'.length : Int))) (iv_r1 (ev_e2 ev_fro (ev_e1 ev_fro (g_len (k := .fro))) rfl) h.1) h.2.1 (fun x15 hx16 => ⟨[cD (qPo p'), cD (qL qI coefs_here'), cD (qI den'), _, _, cD (qI size'), cO (mine'.map qI), cD (qI x15), _], _, rfl, ev_c, rfl⟩)) (g_cat (k := .own) (l := .own) (e := qI) (xs := coefs_here') (ys := ((rngT 0 (size' - (coefs_here'.length : Int))).map fun (x15 : Int) => (0 : Int))) h.2.2.1)) rfl rfl)) (r_law_poly_is_13 p' den' size' mine' (coefs_here' ++ ((rngT 0 (size' - (coefs_here'.length : Int))).map fun (x15 : Int) => (0 : Int))) h.2.2.2)
theorem r_law_poly_is_11 {j3 : Option Cel} {j4 : Option Cel} {j6 : Option Cel} {j7 : Option Cel} {j8 : Option Cel} (p' : Po) (coefs_here' : List Int) (den' : Int) (size' : Int) (h : v_law_poly_is_11 p' coefs_here' den' size') : RtOk (b_law_poly_is_10 [cD (qPo p'), cD (qL qI coefs_here'), cD (qI den'), j3, j4, cD (qI size'), j6, j7, j8]) (fun r x => x = .fro (qB r)) (q_law_poly_is_11 p' coefs_here' den' size') :=
  RtOk.of (sq_nx (ρ' := [cD (qPo p'), cD (qL qI coefs_here'), cD (qI den'), _, _, cD (qI size'), cO ((p'.coefs ++ ((rngT 0 (size' - (p'.coefs.length : Int))).map fun (x13 : Int) => (0 : Int))).map qI), _, _]) (st_set (ev_e2 (ev_e1 (ev_e1 ev_fro (by first | exact g_fld rfl rfl | exact g_attF rfl rfl)) rfl) (ev_lc (e := qI) (e' := qI) (F := fun (x13 : Int) => (0 : Int)) (xs := rngT 0 (size' - (p'.coefs.length : Int))) (iv_r1 (ev_e2 ev_fro (ev_e1 (ev_e1 ev_fro (by first | exact g_fld rfl rfl | exact g_attF rfl rfl)) g_lenV) rfl) h.1) h.2.1 (fun x13 hx14 => ⟨[cD (qPo p'), cD (qL qI coefs_here'), cD (qI den'), _, _, cD (qI size'), _, cD (qI x13), _], _, rfl, ev_c, rfl⟩)) (g_cat (k := .own) (l := .own) (e := qI) (xs := p'.coefs) (ys := ((rngT 0 (size' - (p'.coefs.length : Int))).map fun (x13 : Int) => (0 : Int))) h.2.2.1)) rfl rfl)) (r_law_poly_is_12 p' coefs_here' den' size' (p'.coefs ++ ((rngT 0 (size' - (p'.coefs.length : Int))).map fun (x13 : Int) => (0 : Int))) h.2.2.2)
theorem r_law_poly_is_10 {j3 : Option Cel} {j4 : Option Cel} {j5 : Option Cel} {j6 : Option Cel} {j7 : Option Cel} {j8 : Option Cel} (p' : Po) (coefs_here' : List Int) (den' : Int) (h : v_law_poly_is_10 p' coefs_here' den') : RtOk (b_law_poly_is_11 [cD (qPo p'), cD (qL qI coefs_here'), cD (qI den'), j3, j4, j5, j6, j7, j8]) (fun r x => x = .fro (qB r)) (q_law_poly_is_10 p' coefs_here' den') :=
  RtOk.of (sq_nx (ρ' := [cD (qPo p'), cD (qL qI coefs_here'), cD (qI den'), _, _, cD (qI (max (p'.coefs.length : Int) (coefs_here'.length : Int))), _, _, _]) (st_set (ev_e2 (ev_e1 (ev_e1 ev_fro (by first | exact g_fld rfl rfl | exact g_attF rfl rfl)) g_lenV) (ev_e1 ev_fro (g_len (k := .fro))) g_max) rfl rfl)) (r_law_poly_is_11 p' coefs_here' den' (max (p'.coefs.length : Int) (coefs_here'.length : Int)) h)
theorem r_law_poly_is_8 {j4 : Option Cel} {j5 : Option Cel} {j6 : Option Cel} {j7 : Option Cel} {j8 : Option Cel} (p' : Po) (coefs_here' : List Int) (den' : Int) (shared' : Int) (h : v_law_poly_is_8 p' coefs_here' den' shared') : RtOk (b_law_poly_is_12 [cD (qPo p'), cD (qL qI coefs_here'), cD (qI den'), cD (qI shared'), j4, j5, j6, j7, j8]) (fun r x => x = .fro (qB r)) (q_law_poly_is_8 p' coefs_here' den' shared') :=
  rt_sif (tv_or (tv_b (ev_e2 ev_fro ev_c g_neI)) (fun hb10 => tv_and (tv_b (ev_e2 (ev_e1 (ev_e1 ev_fro (by first | exact g_fld rfl rfl | exact g_attF rfl rfl)) g_lenV) ev_c rfl)) (fun hb11 => tv_b (ev_e2 (ev_e2 (ev_e1 ev_fro (by first | exact g_fld rfl rfl | exact g_attF rfl rfl)) (ev_e1 ev_c rfl) (g_ixV (e := qI) ((h.1 hb10) hb11))) ev_c g_eqI)))) (fun hb12 => rt_seq r_law_poly_is_9) (fun hb12 => RtOk.of (sq_nx rfl) (r_law_poly_is_10 p' coefs_here' den' (h.2 hb12)))
theorem r_law_poly_is_3 {j4 : Option Cel} {j5 : Option Cel} {j6 : Option Cel} {j7 : Option Cel} {j8 : Option Cel} (p' : Po) (coefs_here' : List Int) (den' : Int) (shared' : Int) (h : v_law_poly_is_3 p' coefs_here' den' shared') : RtOk (b_law_poly_is_13 [cD (qPo p'), cD (qL qI coefs_here'), cD (qI den'), cD (qI shared'), j4, j5, j6, j7, j8]) (fun r x => x = .fro (qB r)) (q_law_poly_is_3 p' coefs_here' den' shared') :=
  sq_XR (E := (fun (s : Int) w => ∃ (j4 : Option Cel) (j5 : Option Cel) (j6 : Option Cel) (j7 : Option Cel) (j8 : Option Cel), w = [cD (qPo p'), cD (qL qI coefs_here'), cD (qI den'), cD (qI s), j4, j5, j6, j7, j8])) (B0 := (fun _ _ => False)) (q := q_law_poly_is_7 p' coefs_here' den' shared') (FlOk.of (sfor_eq (iv_v (ev_e1 ev_fro (by first | exact g_fld rfl rfl | exact g_attF rfl rfl)))) (for_X (E := (fun (s : Int) w => ∃ (j4 : Option Cel) (j5 : Option Cel) (j6 : Option Cel) (j7 : Option Cel) (j8 : Option Cel), w = [cD (qPo p'), cD (qL qI coefs_here'), cD (qI den'), cD (qI s), j4, j5, j6, j7, j8])) (V := fun (s6 : Int) (x7 : Int) => v_law_poly_is_4 p' coefs_here' den' s6 x7) (f := fun (s6 : Int) (x7 : Int) => q_law_poly_is_4 p' coefs_here' den' s6 x7) (e := qI) (fun s6 x7 ρ hρ hv8 => by obtain ⟨_, _, _, _, _, rfl⟩ := hρ; exact ⟨_, rfl, r_law_poly_is_4 p' coefs_here' den' s6 x7 hv8⟩) p'.coefs shared' _ ⟨_, _, _, _, _, rfl⟩ h.1)) (fun s9 w hw hs23 => by obtain ⟨_, _, _, _, _, rfl⟩ := hw; exact r_law_poly_is_8 p' coefs_here' den' s9 (h.2 s9 hs23))
theorem r_law_poly_is_2 {j3 : Option Cel} {j4 : Option Cel} {j5 : Option Cel} {j6 : Option Cel} {j7 : Option Cel} {j8 : Option Cel} (p' : Po) (coefs_here' : List Int) (den' : Int) (h : v_law_poly_is_2 p' coefs_here' den') : RtOk (b_law_poly_is_14 [cD (qPo p'), cD (qL qI coefs_here'), cD (qI den'), j3, j4, j5, j6, j7, j8]) (fun r x => x = .fro (qB r)) (q_law_poly_is_2 p' coefs_here' den') :=
  RtOk.of (sq_nx (ρ' := [cD (qPo p'), cD (qL qI coefs_here'), cD (qI den'), cD (qI p'.den), _, _, _, _, _]) (st_set (ev_e1 ev_fro (by first | exact g_fld rfl rfl | exact g_attF rfl rfl)) rfl rfl)) (r_law_poly_is_3 p' coefs_here' den' p'.den h)
theorem r_law_poly_is_0 {j3 : Option Cel} {j4 : Option Cel} {j5 : Option Cel} {j6 : Option Cel} {j7 : Option Cel} {j8 : Option Cel} (p' : Po) (coefs_here' : List Int) (den' : Int) (h : v_law_poly_is_0 p' coefs_here' den') : RtOk (b_law_poly_is_15 [cD (qPo p'), cD (qL qI coefs_here'), cD (qI den'), j3, j4, j5, j6, j7, j8]) (fun r x => x = .fro (qB r)) (q_law_poly_is_0 p' coefs_here' den') :=
  rt_sif (tv_or (tv_not (tv_tru (ev_e1 ev_fro rfl) rfl)) (fun hb1 => tv_or (tv_not (tv_tru (ev_e1 (ev_e1 ev_fro (by first | exact g_fld rfl rfl | exact g_attF rfl rfl)) rfl) rfl)) (fun hb2 => tv_or (tv_not (tv_tru (ev_call (r_law_is_integer p'.den) (av_cons (ev_e1 ev_fro (by first | exact g_fld rfl rfl | exact g_attF rfl rfl)) rfl av_nil)) rfl)) (fun hb3 => tv_b (ev_e2 (ev_e1 ev_fro (by first | exact g_fld rfl rfl | exact g_attF rfl rfl)) ev_c rfl))))) (fun hb4 => rt_seq r_law_poly_is_1) (fun hb4 => RtOk.of (sq_nx rfl) (r_law_poly_is_2 p' coefs_here' den' (h hb4)))
theorem r_law_poly_is (p' : Po) (coefs_here' : List Int) (den' : Int) (h : v_law_poly_is p' coefs_here' den') : f_law_poly_is [qPo p', qL qI coefs_here', qI den'] = some (.ok (.fro (qB (q_law_poly_is p' coefs_here' den')))) :=
  fn_F (e := qB) (r_law_poly_is_0 p' coefs_here' den' h)
theorem r_law_trimmed_2 (coefs_here' : List Int) (size' : Int) : NxOk (b_law_trimmed_0 [cD (qL qI coefs_here'), cD (qI size')]) (fun (s : Int) w => w = [cD (qL qI coefs_here'), cD (qI s)]) (q_law_trimmed_2 coefs_here' size') :=
  nx_st (ρ' := [cD (qL qI coefs_here'), cD (qI (size' - (1 : Int)))]) (st_set (ev_e2 ev_fro ev_c rfl) rfl rfl) rfl
theorem r_law_trimmed_4 (coefs_here' : List Int) (size' : Int) : RtOk (b_law_trimmed_1 [cD (qL qI coefs_here'), cD (qI size')]) (fun r x => x = .own (r.map qI)) (q_law_trimmed_4 coefs_here' size') :=
  rt_ret (ev_sl (k := .fro) ev_fro ov_none (ov_some ev_fro)) rfl (by simp)
theorem r_law_trimmed_1 (coefs_here' : List Int) (size' : Int) (h : v_law_trimmed_1 coefs_here' size') : RtOk (b_law_trimmed_2 [cD (qL qI coefs_here'), cD (qI size')]) (fun r x => x = .own (r.map qI)) (q_law_trimmed_1 coefs_here' size') :=
  sq_NR (E := (fun (s : Int) w => w = [cD (qL qI coefs_here'), cD (qI s)])) (q := q_law_trimmed_3 coefs_here' size') (while_N (E := (fun (s : Int) w => w = [cD (qL qI coefs_here'), cD (qI s)])) (t' := fun (s1 : Int) => ((decide (s1 > (0 : Int))) && (decide ((gt coefs_here' (s1 - (1 : Int))) = (0 : Int))))) (Vt := fun (s1 : Int) => ((decide (s1 > (0 : Int))) = true → inR coefs_here' (s1 - (1 : Int)))) (f := fun (s1 : Int) => q_law_trimmed_2 coefs_here' s1) (V := fun (s1 : Int) => True) (fun s1 ρ hρ hv2 => by obtain rfl := hρ; exact tv_and (tv_b (ev_e2 ev_fro ev_c rfl)) (fun hb3 => tv_b (ev_e2 (ev_e2 ev_fro (ev_e2 ev_fro ev_c rfl) (g_ix (k := .fro) (e := qI) (hv2 hb3))) ev_c g_eqI))) (fun s1 ρ hρ hv2 _ => by obtain rfl := hρ; exact r_law_trimmed_2 coefs_here' s1) rfl h) (fun w hw => by obtain rfl := hw; exact r_law_trimmed_4 coefs_here' (q_law_trimmed_3 coefs_here' size'))
theorem r_law_trimmed_0 {j1 : Option Cel} (coefs_here' : List Int) (h : v_law_trimmed_0 coefs_here') : RtOk (b_law_trimmed_3 [cD (qL qI coefs_here'), j1]) (fun r x => x = .own (r.map qI)) (q_law_trimmed_0 coefs_here') :=
  RtOk.of (sq_nx (ρ' := [cD (qL qI coefs_here'), cD (qI (coefs_here'.length : Int))]) (st_set (ev_e1 ev_fro (g_len (k := .fro))) rfl rfl)) (r_law_trimmed_1 coefs_here' (coefs_here'.length : Int) h)
theorem r_law_trimmed (coefs_here' : List Int) (h : v_law_trimmed coefs_here') : f_law_trimmed [qL qI coefs_here'] = some (.ok (.own ((q_law_trimmed coefs_here').map qI))) :=
  fn_O (r_law_trimmed_0 coefs_here' h)
theorem r_law_reduced_2 (p' : List Int) (shared' : Int) (number' : Int) (h : v_law_reduced_2 p' shared' number') : NxOk (b_law_reduced_0 [cD (qL qI p'), cD (qI shared'), cD (qI number')]) (fun (s : Int) w => ∃ (j2 : Option Cel), w = [cD (qL qI p'), cD (qI s), j2]) (q_law_reduced_2 p' shared' number') :=
  nx_st (ρ' := [cD (qL qI p'), cD (qI (q_law_divisor shared' number')), cD (qI number')]) (st_set (ev_call (r_law_divisor shared' number' h) (av_cons ev_fro rfl (av_cons ev_fro rfl av_nil))) rfl rfl) ⟨_, rfl⟩
theorem r_law_reduced_5 {j0 : Option Cel} {j1 : Option Cel} {j2 : Option Cel}  : RtOk (b_law_reduced_1 [j0, j1, j2]) (fun r x => x = .own (r.map qI)) (q_law_reduced_5) :=
  rt_ret (ev_lst av_nil) rfl (by simp)
theorem r_law_reduced_6 {j2 : Option Cel} (p' : List Int) (shared' : Int) (h : v_law_reduced_6 p' shared') : RtOk (b_law_reduced_2 [cD (qL qI p'), cD (qI shared'), j2]) (fun r x => x = .own (r.map qI)) (q_law_reduced_6 p' shared') :=
  rt_ret (ev_lc (e := qI) (e' := qI) (F := fun (x5 : Int) => (Int.fdiv x5 shared')) (xs := p') (iv_k (k := .fro) ev_fro (by simp)) h.2 (fun x5 hx6 => ⟨[cD (qL qI p'), cD (qI shared'), cD (qI x5)], _, rfl, ev_e2 ev_fro ev_fro (g_div (h.1 x5 hx6)), rfl⟩)) rfl (by simp)
theorem r_law_reduced_4 {j2 : Option Cel} (p' : List Int) (shared' : Int) (h : v_law_reduced_4 p' shared') : RtOk (b_law_reduced_3 [cD (qL qI p'), cD (qI shared'), j2]) (fun r x => x = .own (r.map qI)) (q_law_reduced_4 p' shared') :=
  rt_sif (tv_b (ev_e2 ev_fro ev_c g_eqI)) (fun hb4 => rt_seq r_law_reduced_5) (fun hb4 => RtOk.of (sq_nx rfl) (r_law_reduced_6 p' shared' (h hb4)))
theorem r_law_reduced_1 {j2 : Option Cel} (p' : List Int) (shared' : Int) (h : v_law_reduced_1 p' shared') : RtOk (b_law_reduced_4 [cD (qL qI p'), cD (qI shared'), j2]) (fun r x => x = .own (r.map qI)) (q_law_reduced_1 p' shared') :=
  sq_NR (E := (fun (s : Int) w => ∃ (j2 : Option Cel), w = [cD (qL qI p'), cD (qI s), j2])) (q := q_law_reduced_3 p' shared') (NxOk.of (sfor_eq (iv_k (k := .fro) ev_fro (by simp))) (for_N (E := (fun (s : Int) w => ∃ (j2 : Option Cel), w = [cD (qL qI p'), cD (qI s), j2])) (V := fun (s1 : Int) (x2 : Int) => v_law_reduced_2 p' s1 x2) (f := fun (s1 : Int) (x2 : Int) => q_law_reduced_2 p' s1 x2) (e := qI) (fun s1 x2 ρ hρ hv3 => by obtain ⟨_, rfl⟩ := hρ; exact ⟨_, rfl, r_law_reduced_2 p' s1 x2 hv3⟩) p' shared' _ ⟨_, rfl⟩ h.1)) (fun w hw => by obtain ⟨_, rfl⟩ := hw; exact r_law_reduced_4 p' (q_law_reduced_3 p' shared') h.2)
theorem r_law_reduced_0 {j1 : Option Cel} {j2 : Option Cel} (p' : List Int) (h : v_law_reduced_0 p') : RtOk (b_law_reduced_5 [cD (qL qI p'), j1, j2]) (fun r x => x = .own (r.map qI)) (q_law_reduced_0 p') :=
  RtOk.of (sq_nx (ρ' := [cD (qL qI p'), cD (qI (0 : Int)), _]) (st_set ev_c rfl rfl)) (r_law_reduced_1 p' (0 : Int) h)
theorem r_law_reduced (p' : List Int) (h : v_law_reduced p') : f_law_reduced [qL qI p'] = some (.ok (.own ((q_law_reduced p').map qI))) :=
  fn_O (r_law_reduced_0 p' h)
theorem r_law_rest_7 {j0 : Option Cel} {j3 : Option Cel} {j7 : Option Cel} (q' : List Int) (rest_here' : List Int) (top' : Int) (place' : Int) (i' : Int) (h : v_law_rest_7 q' rest_here' top' place' i') : NxOk (b_law_rest_0 [j0, cD (qL qI q'), cO (rest_here'.map qI), j3, cD (qI top'), cD (qI place'), cD (qI i'), j7]) (fun (s : (List Int)) w => ∃ (j0 : Option Cel) (j3 : Option Cel) (j6 : Option Cel) (j7 : Option Cel), w = [j0, cD (qL qI q'), cO (s.map qI), j3, cD (qI top'), cD (qI place'), j6, j7]) (q_law_rest_7 q' rest_here' top' place' i') :=
  nx_st (ρ' := [_, cD (qL qI q'), cO ((setT rest_here' (place' + i') ((gt rest_here' (place' + i')) - (top' * (gt q' i')))).map qI), _, cD (qI top'), cD (qI place'), cD (qI i'), _]) (st_ix (e := qI) rfl (ev_e2 (ev_e2 ev_own (ev_e2 ev_fro ev_fro rfl) (g_ix (k := .bor) (e := qI) h.1)) (ev_e2 ev_fro (ev_e2 ev_fro ev_fro (g_ix (k := .fro) (e := qI) h.2.1)) (g_mul h.2.2.1)) rfl) rfl (ev_e2 ev_fro ev_fro rfl) h.2.2.2 rfl) ⟨_, _, _, _, rfl⟩
theorem r_law_rest_9 {j0 : Option Cel} {j3 : Option Cel} {j4 : Option Cel} {j5 : Option Cel} {j6 : Option Cel} {j7 : Option Cel} (q' : List Int) (rest_here' : List Int) : NxOk (b_law_rest_1 [j0, cD (qL qI q'), cO (rest_here'.map qI), j3, j4, j5, j6, j7]) (fun (s : (List Int)) w => ∃ (j0 : Option Cel) (j3 : Option Cel) (j4 : Option Cel) (j5 : Option Cel) (j6 : Option Cel) (j7 : Option Cel), w = [j0, cD (qL qI q'), cO (s.map qI), j3, j4, j5, j6, j7]) (q_law_rest_9 q' rest_here') :=
  nx_st (ρ' := [_, cD (qL qI q'), cO ((cutT rest_here' none (some (-(1 : Int)))).map qI), _, _, _, _, _]) (st_set (ev_sl (k := .bor) ev_own ov_none (ov_some (ev_e1 ev_c rfl))) rfl rfl) ⟨_, _, _, _, _, _, rfl⟩
theorem r_law_rest_6 {j0 : Option Cel} {j3 : Option Cel} {j6 : Option Cel} {j7 : Option Cel} (q' : List Int) (rest_here' : List Int) (top' : Int) (place' : Int) (h : v_law_rest_6 q' rest_here' top' place') : NxOk (b_law_rest_2 [j0, cD (qL qI q'), cO (rest_here'.map qI), j3, cD (qI top'), cD (qI place'), j6, j7]) (fun (s : (List Int)) w => ∃ (j0 : Option Cel) (j3 : Option Cel) (j4 : Option Cel) (j5 : Option Cel) (j6 : Option Cel) (j7 : Option Cel), w = [j0, cD (qL qI q'), cO (s.map qI), j3, j4, j5, j6, j7]) (q_law_rest_6 q' rest_here' top' place') :=
  sq_NN (E := (fun (s : (List Int)) w => ∃ (j0 : Option Cel) (j3 : Option Cel) (j6 : Option Cel) (j7 : Option Cel), w = [j0, cD (qL qI q'), cO (s.map qI), j3, cD (qI top'), cD (qI place'), j6, j7])) (q := q_law_rest_8 q' rest_here' top' place') (NxOk.of (sfor_eq (iv_r1 (ev_e1 ev_fro (g_len (k := .fro))) h.1)) (for_N (E := (fun (s : (List Int)) w => ∃ (j0 : Option Cel) (j3 : Option Cel) (j6 : Option Cel) (j7 : Option Cel), w = [j0, cD (qL qI q'), cO (s.map qI), j3, cD (qI top'), cD (qI place'), j6, j7])) (V := fun (s4 : (List Int)) (x5 : Int) => v_law_rest_7 q' s4 top' place' x5) (f := fun (s4 : (List Int)) (x5 : Int) => q_law_rest_7 q' s4 top' place' x5) (e := qI) (fun s4 x5 ρ hρ hv6 => by obtain ⟨_, _, _, _, rfl⟩ := hρ; exact ⟨_, rfl, r_law_rest_7 q' s4 top' place' x5 hv6⟩) (rngT 0 (q'.length : Int)) rest_here' _ ⟨_, _, _, _, rfl⟩ h.2)) (fun w hw => by obtain ⟨_, _, _, _, rfl⟩ := hw; exact r_law_rest_9 q' (q_law_rest_8 q' rest_here' top' place'))
theorem r_law_rest_5 {j0 : Option Cel} {j3 : Option Cel} {j6 : Option Cel} {j7 : Option Cel} (q' : List Int) (rest_here' : List Int) (top' : Int) (place' : Int) (h : v_law_rest_5 q' rest_here' top' place') : NxOk (b_law_rest_3 [j0, cD (qL qI q'), cO (rest_here'.map qI), j3, cD (qI top'), cD (qI place'), j6, j7]) (fun (s : (List Int)) w => ∃ (j0 : Option Cel) (j3 : Option Cel) (j4 : Option Cel) (j5 : Option Cel) (j6 : Option Cel) (j7 : Option Cel), w = [j0, cD (qL qI q'), cO (s.map qI), j3, j4, j5, j6, j7]) (q_law_rest_5 q' rest_here' top' place') :=
  NxOk.of (sq_nx (ρ' := [_, cD (qL qI q'), cO ((rest_here'.map fun (x2 : Int) => ((gt q' (-(1 : Int))) * x2)).map qI), _, cD (qI top'), cD (qI place'), _, _]) (fz_own (ρ' := [_, cD (qL qI q'), cD (qL qI rest_here'), _, cD (qI top'), cD (qI place'), _, _]) rfl rfl (st_set (ev_lc (e := qI) (e' := qI) (F := fun (x2 : Int) => ((gt q' (-(1 : Int))) * x2)) (xs := rest_here') (iv_k (k := .fro) ev_fro (by simp)) h.2.1 (fun x2 hx3 => ⟨[_, cD (qL qI q'), cD (qL qI rest_here'), _, cD (qI top'), cD (qI place'), _, cD (qI x2)], _, rfl, ev_e2 (ev_e2 ev_fro (ev_e1 ev_c rfl) (g_ix (k := .fro) (e := qI) (h.1 x2 hx3).1)) ev_fro (g_mul (h.1 x2 hx3).2), rfl⟩)) rfl rfl))) (r_law_rest_6 q' (rest_here'.map fun (x2 : Int) => ((gt q' (-(1 : Int))) * x2)) top' place' h.2.2)
theorem r_law_rest_4 {j0 : Option Cel} {j3 : Option Cel} {j5 : Option Cel} {j6 : Option Cel} {j7 : Option Cel} (q' : List Int) (rest_here' : List Int) (top' : Int) (h : v_law_rest_4 q' rest_here' top') : NxOk (b_law_rest_4 [j0, cD (qL qI q'), cO (rest_here'.map qI), j3, cD (qI top'), j5, j6, j7]) (fun (s : (List Int)) w => ∃ (j0 : Option Cel) (j3 : Option Cel) (j4 : Option Cel) (j5 : Option Cel) (j6 : Option Cel) (j7 : Option Cel), w = [j0, cD (qL qI q'), cO (s.map qI), j3, j4, j5, j6, j7]) (q_law_rest_4 q' rest_here' top') :=
  NxOk.of (sq_nx (ρ' := [_, cD (qL qI q'), cO (rest_here'.map qI), _, cD (qI top'), cD (qI ((rest_here'.length : Int) - (q'.length : Int))), _, _]) (st_set (ev_e2 (ev_e1 ev_own (g_len (k := .bor))) (ev_e1 ev_fro (g_len (k := .fro))) rfl) rfl rfl)) (r_law_rest_5 q' rest_here' top' ((rest_here'.length : Int) - (q'.length : Int)) h)
theorem r_law_rest_3 {j0 : Option Cel} {j3 : Option Cel} {j4 : Option Cel} {j5 : Option Cel} {j6 : Option Cel} {j7 : Option Cel} (q' : List Int) (rest_here' : List Int) (h : v_law_rest_3 q' rest_here') : NxOk (b_law_rest_5 [j0, cD (qL qI q'), cO (rest_here'.map qI), j3, j4, j5, j6, j7]) (fun (s : (List Int)) w => ∃ (j0 : Option Cel) (j3 : Option Cel) (j4 : Option Cel) (j5 : Option Cel) (j6 : Option Cel) (j7 : Option Cel), w = [j0, cD (qL qI q'), cO (s.map qI), j3, j4, j5, j6, j7]) (q_law_rest_3 q' rest_here') :=
  NxOk.of (sq_nx (ρ' := [_, cD (qL qI q'), cO (rest_here'.map qI), _, cD (qI (gt rest_here' (-(1 : Int)))), _, _, _]) (st_set (ev_e2 ev_own (ev_e1 ev_c rfl) (g_ix (k := .bor) (e := qI) h.1)) rfl rfl)) (r_law_rest_4 q' rest_here' (gt rest_here' (-(1 : Int))) h.2)
theorem r_law_rest_2 {j0 : Option Cel} {j3 : Option Cel} {j4 : Option Cel} {j5 : Option Cel} {j6 : Option Cel} {j7 : Option Cel} (q' : List Int) (rest_here' : List Int) (h : v_law_rest_2 q' rest_here') : NxOk (b_law_rest_6 [j0, cD (qL qI q'), cO (rest_here'.map qI), j3, j4, j5, j6, j7]) (fun (s : (List Int)) w => ∃ (j0 : Option Cel) (j3 : Option Cel) (j4 : Option Cel) (j5 : Option Cel) (j6 : Option Cel) (j7 : Option Cel), w = [j0, cD (qL qI q'), cO (s.map qI), j3, j4, j5, j6, j7]) (q_law_rest_2 q' rest_here') :=
  nx_if (tv_b (ev_e2 (ev_e1 ev_own (g_len (k := .bor))) (ev_e1 ev_fro (g_len (k := .fro))) rfl)) (fun hb1 => r_law_rest_3 q' rest_here' (h hb1)) (fun hb1 => nx_next ⟨_, _, _, _, _, _, rfl⟩)
theorem r_law_rest_11 {j0 : Option Cel} {j1 : Option Cel} {j3 : Option Cel} {j4 : Option Cel} {j5 : Option Cel} {j6 : Option Cel} {j7 : Option Cel} (rest_here' : List Int) (h : v_law_rest_11 rest_here') : RtOk (b_law_rest_7 [j0, j1, cO (rest_here'.map qI), j3, j4, j5, j6, j7]) (fun r x => x = .own (r.map qI)) (q_law_rest_11 rest_here') :=
  RtOk.of (fq_own (ρ' := [_, _, cD (qL qI rest_here'), _, _, _, _, _]) rfl rfl) (rt_ret (ev_call (r_law_trimmed rest_here' h) (av_cons ev_fro rfl av_nil)) rfl (by simp))
theorem r_law_rest_1 {j3 : Option Cel} {j4 : Option Cel} {j5 : Option Cel} {j6 : Option Cel} {j7 : Option Cel} (p' : List Int) (q' : List Int) (rest_here' : List Int) (h : v_law_rest_1 p' q' rest_here') : RtOk (b_law_rest_8 [cD (qL qI p'), cD (qL qI q'), cO (rest_here'.map qI), j3, j4, j5, j6, j7]) (fun r x => x = .own (r.map qI)) (q_law_rest_1 p' q' rest_here') :=
  sq_NR (E := (fun (s : (List Int)) w => ∃ (j0 : Option Cel) (j3 : Option Cel) (j4 : Option Cel) (j5 : Option Cel) (j6 : Option Cel) (j7 : Option Cel), w = [j0, cD (qL qI q'), cO (s.map qI), j3, j4, j5, j6, j7])) (q := q_law_rest_10 p' q' rest_here') (NxOk.of (sfor_eq (iv_r1 (ev_e1 ev_fro (g_len (k := .fro))) h.1)) (for_N (E := (fun (s : (List Int)) w => ∃ (j0 : Option Cel) (j3 : Option Cel) (j4 : Option Cel) (j5 : Option Cel) (j6 : Option Cel) (j7 : Option Cel), w = [j0, cD (qL qI q'), cO (s.map qI), j3, j4, j5, j6, j7])) (V := fun (s7 : (List Int)) (x8 : Int) => v_law_rest_2 q' s7) (f := fun (s7 : (List Int)) (x8 : Int) => q_law_rest_2 q' s7) (e := qI) (fun s7 x8 ρ hρ hv9 => by obtain ⟨_, _, _, _, _, _, rfl⟩ := hρ; exact ⟨_, rfl, r_law_rest_2 q' s7 hv9⟩) (rngT 0 (p'.length : Int)) rest_here' _ ⟨_, _, _, _, _, _, rfl⟩ h.2.1)) (fun w hw => by obtain ⟨_, _, _, _, _, _, rfl⟩ := hw; exact r_law_rest_11 (q_law_rest_10 p' q' rest_here') h.2.2)
theorem r_law_rest_0 {j2 : Option Cel} {j3 : Option Cel} {j4 : Option Cel} {j5 : Option Cel} {j6 : Option Cel} {j7 : Option Cel} (p' : List Int) (q' : List Int) (h : v_law_rest_0 p' q') : RtOk (b_law_rest_9 [cD (qL qI p'), cD (qL qI q'), j2, j3, j4, j5, j6, j7]) (fun r x => x = .own (r.map qI)) (q_law_rest_0 p' q') :=
  RtOk.of (sq_nx (ρ' := [cD (qL qI p'), cD (qL qI q'), cO (p'.map qI), _, _, _, _, _]) (st_set (ev_e1 ev_fro (g_list (k := .fro))) rfl rfl)) (r_law_rest_1 p' q' p' h)
theorem r_law_rest (p' : List Int) (q' : List Int) (h : v_law_rest p' q') : f_law_rest [qL qI p', qL qI q'] = some (.ok (.own ((q_law_rest p' q').map qI))) :=
  fn_O (r_law_rest_0 p' q' h)
theorem r_law_degree_6 {j0 : Option Cel} {j1 : Option Cel} {j4 : Option Cel} (first' : List Int) (second' : List Int) (rest_here' : List Int) : NxOk (b_law_degree_0 [j0, j1, cD (qL qI first'), cD (qL qI second'), j4, cO (rest_here'.map qI)]) (fun (s : (List Int) × (List Int)) w => ∃ (j0 : Option Cel) (j1 : Option Cel) (j4 : Option Cel) (j5 : Option Cel), w = [j0, j1, cD (qL qI s.1), cD (qL qI s.2), j4, j5]) (q_law_degree_6 first' second' rest_here') :=
  nx_st (ρ' := [_, _, cD (qL qI first'), cD (qL qI rest_here'), _, cD (qL qI rest_here')]) (fz_own (ρ' := [_, _, cD (qL qI first'), cD (qL qI second'), _, cD (qL qI rest_here')]) rfl rfl (st_set ev_fro rfl rfl)) ⟨_, _, _, _, rfl⟩
theorem r_law_degree_5 {j0 : Option Cel} {j1 : Option Cel} {j4 : Option Cel} (first' : List Int) (second' : List Int) (rest_here' : List Int) : NxOk (b_law_degree_1 [j0, j1, cD (qL qI first'), cD (qL qI second'), j4, cO (rest_here'.map qI)]) (fun (s : (List Int) × (List Int)) w => ∃ (j0 : Option Cel) (j1 : Option Cel) (j4 : Option Cel) (j5 : Option Cel), w = [j0, j1, cD (qL qI s.1), cD (qL qI s.2), j4, j5]) (q_law_degree_5 first' second' rest_here') :=
  NxOk.of (sq_nx (ρ' := [_, _, cD (qL qI second'), cD (qL qI second'), _, cO (rest_here'.map qI)]) (fz_fro rfl (st_set ev_fro rfl rfl))) (r_law_degree_6 second' second' rest_here')
theorem r_law_degree_4 {j0 : Option Cel} {j1 : Option Cel} {j4 : Option Cel} {j5 : Option Cel} {k_first' : Kd} (hk_k_first' : k_first' ≠ .bor) {k_second' : Kd} (hk_k_second' : k_second' ≠ .bor) (first' : List Int) (second' : List Int) (h : v_law_degree_4 first' second') : NxOk (b_law_degree_2 [j0, j1, some (kC k_first' (first'.map qI)), some (kC k_second' (second'.map qI)), j4, j5]) (fun (s : (List Int) × (List Int)) w => ∃ (j0 : Option Cel) (j1 : Option Cel) (j4 : Option Cel) (j5 : Option Cel), w = [j0, j1, cD (qL qI s.1), cD (qL qI s.2), j4, j5]) (q_law_degree_4 first' second') :=
  NxOk.of (sq_nx (ρ' := [_, _, cD (qL qI first'), cD (qL qI second'), _, cO ((q_law_reduced (q_law_rest first' second')).map qI)]) (fz_mix (k := k_second') (ρ' := [_, _, some (kC k_first' (first'.map qI)), cD (qL qI second'), _, _]) rfl rfl (fz_mix (k := k_first') (ρ' := [_, _, cD (qL qI first'), cD (qL qI second'), _, _]) rfl rfl (st_set (ev_call (r_law_reduced (q_law_rest first' second') h.2) (av_cons (ev_call (r_law_rest first' second' h.1) (av_cons ev_fro rfl (av_cons ev_fro rfl av_nil))) rfl av_nil)) rfl rfl)))) (r_law_degree_5 first' second' (q_law_reduced (q_law_rest first' second')))
theorem r_law_degree_3 {j0 : Option Cel} {j1 : Option Cel} {j4 : Option Cel} {j5 : Option Cel} {k_first' : Kd} (hk_k_first' : k_first' ≠ .bor) {k_second' : Kd} (hk_k_second' : k_second' ≠ .bor) (first' : List Int) (second' : List Int) (h : v_law_degree_3 first' second') : NxOk (b_law_degree_3 [j0, j1, some (kC k_first' (first'.map qI)), some (kC k_second' (second'.map qI)), j4, j5]) (fun (s : (List Int) × (List Int)) w => ∃ (j0 : Option Cel) (j1 : Option Cel) (j4 : Option Cel) (j5 : Option Cel) (m_first' : Kd) (m_second' : Kd), m_first' ≠ .bor ∧ m_second' ≠ .bor ∧ w = [j0, j1, some (kC m_first' (s.1.map qI)), some (kC m_second' (s.2.map qI)), j4, j5]) (q_law_degree_3 first' second') :=
  nx_if (tv_b (ev_e2 (ev_e1 (ev_mix (k := k_second')) (g_len (k := (kV k_second')))) ev_c rfl)) (fun hb2 => NxOk.imp (r_law_degree_4 hk_k_first' hk_k_second' first' second' (h hb2)) (fun s w hw => by obtain ⟨_, _, _, _, rfl⟩ := hw; exact ⟨_, _, _, _, .fro, .fro, (by simp), (by simp), rfl⟩)) (fun hb2 => nx_next ⟨_, _, _, _, _, _, hk_k_first', hk_k_second', rfl⟩)
theorem r_law_degree_8 {j0 : Option Cel} {j1 : Option Cel} {j3 : Option Cel} {j4 : Option Cel} {j5 : Option Cel} {k_first' : Kd} (hk_k_first' : k_first' ≠ .bor) (first' : List Int) : RtOk (b_law_degree_4 [j0, j1, some (kC k_first' (first'.map qI)), j3, j4, j5]) (fun r x => x = .fro (qI r)) (q_law_degree_8 first') :=
  rt_ret (ev_e2 (ev_e1 (ev_mix (k := k_first')) (g_len (k := (kV k_first')))) ev_c rfl) rfl (by simp)
theorem r_law_degree_2 {j4 : Option Cel} {j5 : Option Cel} (p' : List Int) (q' : List Int) (first' : List Int) (second' : List Int) (h : v_law_degree_2 p' q' first' second') : RtOk (b_law_degree_5 [cD (qL qI p'), cD (qL qI q'), cO (first'.map qI), cO (second'.map qI), j4, j5]) (fun r x => x = .fro (qI r)) (q_law_degree_2 p' q' first' second') :=
  sq_NR (E := (fun (s : (List Int) × (List Int)) w => ∃ (j0 : Option Cel) (j1 : Option Cel) (j4 : Option Cel) (j5 : Option Cel) (m_first' : Kd) (m_second' : Kd), m_first' ≠ .bor ∧ m_second' ≠ .bor ∧ w = [j0, j1, some (kC m_first' (s.1.map qI)), some (kC m_second' (s.2.map qI)), j4, j5])) (q := q_law_degree_7 p' q' first' second') (NxOk.of (sfor_eq (iv_r1 (ev_e2 (ev_e2 (ev_e1 ev_fro (g_len (k := .fro))) (ev_e1 ev_fro (g_len (k := .fro))) rfl) ev_c rfl) h.1)) (for_N (E := (fun (s : (List Int) × (List Int)) w => ∃ (j0 : Option Cel) (j1 : Option Cel) (j4 : Option Cel) (j5 : Option Cel) (m_first' : Kd) (m_second' : Kd), m_first' ≠ .bor ∧ m_second' ≠ .bor ∧ w = [j0, j1, some (kC m_first' (s.1.map qI)), some (kC m_second' (s.2.map qI)), j4, j5])) (V := fun (s3 : (List Int) × (List Int)) (x4 : Int) => v_law_degree_3 s3.1 s3.2) (f := fun (s3 : (List Int) × (List Int)) (x4 : Int) => q_law_degree_3 s3.1 s3.2) (e := qI) (fun s3 x4 ρ hρ hv5 => by obtain ⟨_, _, _, _, m_first', m_second', hk_m_first', hk_m_second', rfl⟩ := hρ; exact ⟨_, rfl, r_law_degree_3 hk_m_first' hk_m_second' s3.1 s3.2 hv5⟩) (rngT 0 (((p'.length : Int) + (q'.length : Int)) + (2 : Int))) (first', second') _ ⟨_, _, _, _, .own, .own, (by simp), (by simp), rfl⟩ h.2)) (fun w hw => by obtain ⟨_, _, _, _, m_first', m_second', hk_m_first', hk_m_second', rfl⟩ := hw; exact r_law_degree_8 hk_m_first' ((q_law_degree_7 p' q' first' second').1))
theorem r_law_degree_1 {j3 : Option Cel} {j4 : Option Cel} {j5 : Option Cel} (p' : List Int) (q' : List Int) (first' : List Int) (h : v_law_degree_1 p' q' first') : RtOk (b_law_degree_6 [cD (qL qI p'), cD (qL qI q'), cO (first'.map qI), j3, j4, j5]) (fun r x => x = .fro (qI r)) (q_law_degree_1 p' q' first') :=
  RtOk.of (sq_nx (ρ' := [cD (qL qI p'), cD (qL qI q'), cO (first'.map qI), cO ((q_law_reduced (q_law_trimmed q')).map qI), _, _]) (st_set (ev_call (r_law_reduced (q_law_trimmed q') h.2.1) (av_cons (ev_call (r_law_trimmed q' h.1) (av_cons ev_fro rfl av_nil)) rfl av_nil)) rfl rfl)) (r_law_degree_2 p' q' first' (q_law_reduced (q_law_trimmed q')) h.2.2)
theorem r_law_degree_0 {j2 : Option Cel} {j3 : Option Cel} {j4 : Option Cel} {j5 : Option Cel} (p' : List Int) (q' : List Int) (h : v_law_degree_0 p' q') : RtOk (b_law_degree_7 [cD (qL qI p'), cD (qL qI q'), j2, j3, j4, j5]) (fun r x => x = .fro (qI r)) (q_law_degree_0 p' q') :=
  RtOk.of (sq_nx (ρ' := [cD (qL qI p'), cD (qL qI q'), cO ((q_law_reduced (q_law_trimmed p')).map qI), _, _, _]) (st_set (ev_call (r_law_reduced (q_law_trimmed p') h.2.1) (av_cons (ev_call (r_law_trimmed p' h.1) (av_cons ev_fro rfl av_nil)) rfl av_nil)) rfl rfl)) (r_law_degree_1 p' q' (q_law_reduced (q_law_trimmed p')) h.2.2)
theorem r_law_degree (p' : List Int) (q' : List Int) (h : v_law_degree p' q') : f_law_degree [qL qI p', qL qI q'] = some (.ok (.fro (qI (q_law_degree p' q')))) :=
  fn_F (e := qI) (r_law_degree_0 p' q' h)
noncomputable def q_law_is_divisor_1  : Bool :=
  false
noncomputable def q_law_is_divisor_4  : Bool :=
  false
noncomputable def q_law_is_divisor_6  : Bool :=
  true
noncomputable def q_law_is_divisor_8  : Bool :=
  false
noncomputable def q_law_is_divisor_10 (p' : List Int) (q' : List Int) (whole' : List Int) : Bool :=
  ((decide (((q_law_rest (q_law_trimmed p') whole').length : Int) = (0 : Int))) && (decide (((q_law_rest (q_law_trimmed q') whole').length : Int) = (0 : Int))))
def v_law_is_divisor_10 (p' : List Int) (q' : List Int) (whole' : List Int) : Prop :=
  (v_law_trimmed p' ∧ v_law_rest (q_law_trimmed p') whole' ∧ ((decide (((q_law_rest (q_law_trimmed p') whole').length : Int) = (0 : Int))) = true → (v_law_trimmed q' ∧ v_law_rest (q_law_trimmed q') whole')))
noncomputable def q_law_is_divisor_9 (d' : Po) (p' : List Int) (q' : List Int) : Bool :=
  q_law_is_divisor_10 p' q' d'.coefs
def v_law_is_divisor_9 (d' : Po) (p' : List Int) (q' : List Int) : Prop :=
  v_law_is_divisor_10 p' q' d'.coefs
noncomputable def q_law_is_divisor_7 (d' : Po) (p' : List Int) (q' : List Int) : Bool :=
  if (!decide ((gt d'.coefs (-(1 : Int))) = d'.den)) then q_law_is_divisor_8 else q_law_is_divisor_9 d' p' q'
def v_law_is_divisor_7 (d' : Po) (p' : List Int) (q' : List Int) : Prop :=
  (inR d'.coefs (-(1 : Int)) ∧ ((!decide ((gt d'.coefs (-(1 : Int))) = d'.den)) = false → v_law_is_divisor_9 d' p' q'))
noncomputable def q_law_is_divisor_5 (d' : Po) (p' : List Int) (q' : List Int) (degree_here' : Int) : Bool :=
  if (decide (degree_here' < (0 : Int))) then q_law_is_divisor_6 else q_law_is_divisor_7 d' p' q'
def v_law_is_divisor_5 (d' : Po) (p' : List Int) (q' : List Int) (degree_here' : Int) : Prop :=
  ((decide (degree_here' < (0 : Int))) = false → v_law_is_divisor_7 d' p' q')
noncomputable def q_law_is_divisor_3 (d' : Po) (p' : List Int) (q' : List Int) (degree_here' : Int) : Bool :=
  if (!decide ((d'.coefs.length : Int) = (degree_here' + (1 : Int)))) then q_law_is_divisor_4 else q_law_is_divisor_5 d' p' q' degree_here'
def v_law_is_divisor_3 (d' : Po) (p' : List Int) (q' : List Int) (degree_here' : Int) : Prop :=
  ((!decide ((d'.coefs.length : Int) = (degree_here' + (1 : Int)))) = false → v_law_is_divisor_5 d' p' q' degree_here')
noncomputable def q_law_is_divisor_2 (d' : Po) (p' : List Int) (q' : List Int) : Bool :=
  q_law_is_divisor_3 d' p' q' (q_law_degree p' q')
def v_law_is_divisor_2 (d' : Po) (p' : List Int) (q' : List Int) : Prop :=
  (v_law_degree p' q' ∧ v_law_is_divisor_3 d' p' q' (q_law_degree p' q'))
noncomputable def q_law_is_divisor_0 (d' : Po) (p' : List Int) (q' : List Int) : Bool :=
  if ((!true) || (!(q_law_poly_is d' d'.coefs d'.den))) then q_law_is_divisor_1 else q_law_is_divisor_2 d' p' q'
def v_law_is_divisor_0 (d' : Po) (p' : List Int) (q' : List Int) : Prop :=
  (((!true) = false → v_law_poly_is d' d'.coefs d'.den) ∧ (((!true) || (!(q_law_poly_is d' d'.coefs d'.den))) = false → v_law_is_divisor_2 d' p' q'))
noncomputable def q_law_is_divisor (d' : Po) (p' : List Int) (q' : List Int) : Bool :=
  q_law_is_divisor_0 d' p' q'
def v_law_is_divisor (d' : Po) (p' : List Int) (q' : List Int) : Prop :=
  v_law_is_divisor_0 d' p' q'
theorem r_law_is_divisor_1 {j0 : Option Cel} {j1 : Option Cel} {j2 : Option Cel} {j3 : Option Cel} {j4 : Option Cel}  : RtOk (b_law_is_divisor_0 [j0, j1, j2, j3, j4]) (fun r x => x = .fro (qB r)) (q_law_is_divisor_1) :=
  rt_ret ev_c rfl (by simp)
theorem r_law_is_divisor_4 {j0 : Option Cel} {j1 : Option Cel} {j2 : Option Cel} {j3 : Option Cel} {j4 : Option Cel}  : RtOk (b_law_is_divisor_1 [j0, j1, j2, j3, j4]) (fun r x => x = .fro (qB r)) (q_law_is_divisor_4) :=
  rt_ret ev_c rfl (by simp)
theorem r_law_is_divisor_6 {j0 : Option Cel} {j1 : Option Cel} {j2 : Option Cel} {j3 : Option Cel} {j4 : Option Cel}  : RtOk (b_law_is_divisor_2 [j0, j1, j2, j3, j4]) (fun r x => x = .fro (qB r)) (q_law_is_divisor_6) :=
  rt_ret ev_c rfl (by simp)
theorem r_law_is_divisor_8 {j0 : Option Cel} {j1 : Option Cel} {j2 : Option Cel} {j3 : Option Cel} {j4 : Option Cel}  : RtOk (b_law_is_divisor_3 [j0, j1, j2, j3, j4]) (fun r x => x = .fro (qB r)) (q_law_is_divisor_8) :=
  rt_ret ev_c rfl (by simp)
theorem r_law_is_divisor_10 {j0 : Option Cel} {j3 : Option Cel} (p' : List Int) (q' : List Int) (whole' : List Int) (h : v_law_is_divisor_10 p' q' whole') : RtOk (b_law_is_divisor_4 [j0, cD (qL qI p'), cD (qL qI q'), j3, cO (whole'.map qI)]) (fun r x => x = .fro (qB r)) (q_law_is_divisor_10 p' q' whole') :=
  rt_ret (ev_bor (ρ' := [_, cD (qL qI p'), cD (qL qI q'), _, cD (qL qI whole')]) rfl rfl (ev_and (ev_e2 (ev_e1 (ev_call (r_law_rest (q_law_trimmed p') whole' h.2.1) (av_cons (ev_call (r_law_trimmed p' h.1) (av_cons ev_fro rfl av_nil)) rfl (av_cons ev_fro rfl av_nil))) (g_len (k := .own))) ev_c g_eqI) (fun hb6 => ev_e2 (ev_e1 (ev_call (r_law_rest (q_law_trimmed q') whole' (h.2.2 hb6).2) (av_cons (ev_call (r_law_trimmed q' (h.2.2 hb6).1) (av_cons ev_fro rfl av_nil)) rfl (av_cons ev_fro rfl av_nil))) (g_len (k := .own))) ev_c g_eqI)) (nl_fro (e := qB) _)) rfl (by simp)
theorem r_law_is_divisor_9 {j3 : Option Cel} {j4 : Option Cel} (d' : Po) (p' : List Int) (q' : List Int) (h : v_law_is_divisor_9 d' p' q') : RtOk (b_law_is_divisor_5 [cD (qPo d'), cD (qL qI p'), cD (qL qI q'), j3, j4]) (fun r x => x = .fro (qB r)) (q_law_is_divisor_9 d' p' q') :=
  RtOk.of (sq_nx (ρ' := [cD (qPo d'), cD (qL qI p'), cD (qL qI q'), _, cO (d'.coefs.map qI)]) (st_set (ev_e1 (ev_e1 ev_fro (by first | exact g_fld rfl rfl | exact g_attF rfl rfl)) rfl) rfl rfl)) (r_law_is_divisor_10 p' q' d'.coefs h)
theorem r_law_is_divisor_7 {j3 : Option Cel} {j4 : Option Cel} (d' : Po) (p' : List Int) (q' : List Int) (h : v_law_is_divisor_7 d' p' q') : RtOk (b_law_is_divisor_6 [cD (qPo d'), cD (qL qI p'), cD (qL qI q'), j3, j4]) (fun r x => x = .fro (qB r)) (q_law_is_divisor_7 d' p' q') :=
  rt_sif (tv_b (ev_e2 (ev_e2 (ev_e1 ev_fro (by first | exact g_fld rfl rfl | exact g_attF rfl rfl)) (ev_e1 ev_c rfl) (g_ixV (e := qI) h.1)) (ev_e1 ev_fro (by first | exact g_fld rfl rfl | exact g_attF rfl rfl)) g_neI)) (fun hb5 => rt_seq r_law_is_divisor_8) (fun hb5 => RtOk.of (sq_nx rfl) (r_law_is_divisor_9 d' p' q' (h.2 hb5)))
theorem r_law_is_divisor_5 {j4 : Option Cel} (d' : Po) (p' : List Int) (q' : List Int) (degree_here' : Int) (h : v_law_is_divisor_5 d' p' q' degree_here') : RtOk (b_law_is_divisor_7 [cD (qPo d'), cD (qL qI p'), cD (qL qI q'), cD (qI degree_here'), j4]) (fun r x => x = .fro (qB r)) (q_law_is_divisor_5 d' p' q' degree_here') :=
  rt_sif (tv_b (ev_e2 ev_fro ev_c rfl)) (fun hb4 => rt_seq r_law_is_divisor_6) (fun hb4 => RtOk.of (sq_nx rfl) (r_law_is_divisor_7 d' p' q' (h hb4)))
theorem r_law_is_divisor_3 {j4 : Option Cel} (d' : Po) (p' : List Int) (q' : List Int) (degree_here' : Int) (h : v_law_is_divisor_3 d' p' q' degree_here') : RtOk (b_law_is_divisor_8 [cD (qPo d'), cD (qL qI p'), cD (qL qI q'), cD (qI degree_here'), j4]) (fun r x => x = .fro (qB r)) (q_law_is_divisor_3 d' p' q' degree_here') :=
  rt_sif (tv_b (ev_e2 (ev_e1 (ev_e1 ev_fro (by first | exact g_fld rfl rfl | exact g_attF rfl rfl)) g_lenV) (ev_e2 ev_fro ev_c rfl) g_neI)) (fun hb3 => rt_seq r_law_is_divisor_4) (fun hb3 => RtOk.of (sq_nx rfl) (r_law_is_divisor_5 d' p' q' degree_here' (h hb3)))
theorem r_law_is_divisor_2 {j3 : Option Cel} {j4 : Option Cel} (d' : Po) (p' : List Int) (q' : List Int) (h : v_law_is_divisor_2 d' p' q') : RtOk (b_law_is_divisor_9 [cD (qPo d'), cD (qL qI p'), cD (qL qI q'), j3, j4]) (fun r x => x = .fro (qB r)) (q_law_is_divisor_2 d' p' q') :=
  RtOk.of (sq_nx (ρ' := [cD (qPo d'), cD (qL qI p'), cD (qL qI q'), cD (qI (q_law_degree p' q')), _]) (st_set (ev_call (r_law_degree p' q' h.1) (av_cons ev_fro rfl (av_cons ev_fro rfl av_nil))) rfl rfl)) (r_law_is_divisor_3 d' p' q' (q_law_degree p' q') h.2)
theorem r_law_is_divisor_0 {j3 : Option Cel} {j4 : Option Cel} (d' : Po) (p' : List Int) (q' : List Int) (h : v_law_is_divisor_0 d' p' q') : RtOk (b_law_is_divisor_10 [cD (qPo d'), cD (qL qI p'), cD (qL qI q'), j3, j4]) (fun r x => x = .fro (qB r)) (q_law_is_divisor_0 d' p' q') :=
  rt_sif (tv_or (tv_not (tv_tru (ev_e1 ev_fro rfl) rfl)) (fun hb1 => tv_not (tv_tru (ev_call (r_law_poly_is d' d'.coefs d'.den (h.1 hb1)) (av_cons ev_fro rfl (av_cons (ev_e1 (ev_e1 ev_fro (by first | exact g_fld rfl rfl | exact g_attF rfl rfl)) rfl) rfl (av_cons (ev_e1 ev_fro (by first | exact g_fld rfl rfl | exact g_attF rfl rfl)) rfl av_nil)))) rfl))) (fun hb2 => rt_seq r_law_is_divisor_1) (fun hb2 => RtOk.of (sq_nx rfl) (r_law_is_divisor_2 d' p' q' (h.2 hb2)))
theorem r_law_is_divisor (d' : Po) (p' : List Int) (q' : List Int) (h : v_law_is_divisor d' p' q') : f_law_is_divisor [qPo d', qL qI p', qL qI q'] = some (.ok (.fro (qB (q_law_is_divisor d' p' q')))) :=
  fn_F (e := qB) (r_law_is_divisor_0 d' p' q' h)
theorem r_common_divisor_of_2 {j0 : Option Cel} (result' : Po) (p' : Po) (h : v_common_divisor_of_2 result' p') : NxOk (b_common_divisor_of_0 [j0, cD (qPo result'), cD (qPo p')]) (fun (s : Po) w => ∃ (j0 : Option Cel) (j2 : Option Cel), w = [j0, cD (qPo s), j2]) (q_common_divisor_of_2 result' p') :=
  nx_st (ρ' := [_, cD (qPo (q_common_divisor result' p')), cD (qPo p')]) (st_set (ev_call (r_common_divisor result' p' h) (av_cons ev_fro rfl (av_cons ev_fro rfl av_nil))) rfl rfl) ⟨_, _, rfl⟩
theorem r_common_divisor_of_4 {j0 : Option Cel} {j2 : Option Cel} (result' : Po) : RtOk (b_common_divisor_of_1 [j0, cD (qPo result'), j2]) (fun r x => x = .fro (qPo r)) (q_common_divisor_of_4 result') :=
  rt_retF rfl rfl
theorem r_common_divisor_of_1 {j2 : Option Cel} (polys' : List Po) (result' : Po) (h : v_common_divisor_of_1 polys' result') : RtOk (b_common_divisor_of_2 [cD (qL qPo polys'), cD (qPo result'), j2]) (fun r x => x = .fro (qPo r)) (q_common_divisor_of_1 polys' result') :=
  sq_NR (E := (fun (s : Po) w => ∃ (j0 : Option Cel) (j2 : Option Cel), w = [j0, cD (qPo s), j2])) (q := q_common_divisor_of_3 polys' result') (NxOk.of (sfor_eq (iv_k (k := .fro) ev_fro (by simp))) (for_N (E := (fun (s : Po) w => ∃ (j0 : Option Cel) (j2 : Option Cel), w = [j0, cD (qPo s), j2])) (V := fun (s1 : Po) (x2 : Po) => v_common_divisor_of_2 s1 x2) (f := fun (s1 : Po) (x2 : Po) => q_common_divisor_of_2 s1 x2) (e := qPo) (fun s1 x2 ρ hρ hv3 => by obtain ⟨_, _, rfl⟩ := hρ; exact ⟨_, rfl, r_common_divisor_of_2 s1 x2 hv3⟩) polys' result' _ ⟨_, _, rfl⟩ h)) (fun w hw => by obtain ⟨_, _, rfl⟩ := hw; exact r_common_divisor_of_4 (q_common_divisor_of_3 polys' result'))
theorem r_common_divisor_of_0 {j1 : Option Cel} {j2 : Option Cel} (polys' : List Po) (h : v_common_divisor_of_0 polys') : RtOk (b_common_divisor_of_3 [cD (qL qPo polys'), j1, j2]) (fun r x => x = .fro (qPo r)) (q_common_divisor_of_0 polys') :=
  RtOk.of (sq_nx (ρ' := [cD (qL qPo polys'), cD (qPo (q_Poly_init ([] : List Int) (1 : Int))), _]) (st_set (ev_call (r_Poly_init ([] : List Int) (1 : Int) h.1) (av_cons (ev_lst av_nil) rfl av_nil)) rfl rfl)) (r_common_divisor_of_1 polys' (q_Poly_init ([] : List Int) (1 : Int)) h.2)
theorem r_common_divisor_of (polys' : List Po) (h : v_common_divisor_of polys') : f_common_divisor_of [qL qPo polys'] = some (.ok (.fro (qPo (q_common_divisor_of polys')))) :=
  fn_F (e := qPo) (r_common_divisor_of_0 polys' h)
theorem r_Poly_eq_0 (self' : Po) (other' : Po) : RtOk (b_Poly_eq_0 [cD (qPo self'), cD (qPo other')]) (fun r x => x = .fro (qB r)) (q_Poly_eq_0 self' other') :=
  rt_ret (ev_and (ev_e1 ev_fro rfl) (fun hb1 => ev_and (ev_e2 (ev_e1 ev_fro (by first | exact g_fld rfl rfl | exact g_attF rfl rfl)) (ev_e1 ev_fro (by first | exact g_fld rfl rfl | exact g_attF rfl rfl)) (g_eqF (e := qV qI) (a := self'.coefs) (b := other'.coefs))) (fun hb2 => ev_e2 (ev_e1 ev_fro (by first | exact g_fld rfl rfl | exact g_attF rfl rfl)) (ev_e1 ev_fro (by first | exact g_fld rfl rfl | exact g_attF rfl rfl)) g_eqI))) rfl (by simp)
theorem r_Poly_eq (self' : Po) (other' : Po) : f_Poly_eq [qPo self', qPo other'] = some (.ok (.fro (qB (q_Poly_eq self' other')))) :=
  fn_F (e := qB) (r_Poly_eq_0 self' other')
theorem rf_Poly_eq (x : Po) : q_Poly_eq x x = true := by simp [q_Poly_eq_0, q_Poly_eq]
noncomputable def q_law_7 (numbers_here' : List Int) (p' : List Int) (q' : List Int) : (List Int) :=
  ([] : List Int)
noncomputable def q_law_8 (numbers_here' : List Int) (p' : List Int) (q' : List Int) : (List Int) :=
  if ((decide ((Int.fmod (gt numbers_here' (3 : Int)) (8 : Int)) = (1 : Int))) || (decide ((Int.fmod (gt numbers_here' (3 : Int)) (8 : Int)) = (3 : Int)))) then q_law_7 numbers_here' p' q' else p'
noncomputable def q_law_10 (numbers_here' : List Int) (p' : List Int) (q' : List Int) : (List Int) :=
  ([] : List Int)
noncomputable def q_law_11 (numbers_here' : List Int) (p' : List Int) (q' : List Int) : (List Int) :=
  if ((decide ((Int.fmod (gt numbers_here' (3 : Int)) (8 : Int)) = (2 : Int))) || (decide ((Int.fmod (gt numbers_here' (3 : Int)) (8 : Int)) = (3 : Int)))) then q_law_10 numbers_here' p' q' else q'
noncomputable def q_law_17  : Bool :=
  false
noncomputable def q_law_19  : Bool :=
  false
noncomputable def q_law_21  : Bool :=
  false
noncomputable def q_law_25  : Bool :=
  false
noncomputable def q_law_28 (p' : List Int) (q' : List Int) (d' : Int) (e' : Int) (first' : Po) (second' : Po) (lead' : Int) : Int :=
  (gt (q_law_trimmed p') (-(1 : Int)))
def v_law_28 (p' : List Int) (q' : List Int) (d' : Int) (e' : Int) (first' : Po) (second' : Po) (lead' : Int) : Prop :=
  (v_law_trimmed p' ∧ inR (q_law_trimmed p') (-(1 : Int)))
noncomputable def q_law_29 (p' : List Int) (q' : List Int) (d' : Int) (e' : Int) (first' : Po) (second' : Po) (lead' : Int) : Int :=
  if (decide (((q_law_trimmed p').length : Int) > (0 : Int))) then q_law_28 p' q' d' e' first' second' lead' else lead'
noncomputable def q_law_31  : Bool :=
  false
noncomputable def q_law_32 (p' : List Int) (q' : List Int) (d' : Int) (e' : Int) (first' : Po) (second' : Po) : Bool :=
  ((q_law_poly_is first' p' d') && (q_law_poly_is second' q' e'))
def v_law_32 (p' : List Int) (q' : List Int) (d' : Int) (e' : Int) (first' : Po) (second' : Po) : Prop :=
  (v_law_poly_is first' p' d' ∧ ((q_law_poly_is first' p' d') = true → v_law_poly_is second' q' e'))
noncomputable def q_law_30 (p' : List Int) (q' : List Int) (d' : Int) (e' : Int) (first' : Po) (second' : Po) (lead' : Int) : Bool :=
  if (!(q_law_poly_is (q_monic first') p' lead')) then q_law_31 else q_law_32 p' q' d' e' first' second'
def v_law_30 (p' : List Int) (q' : List Int) (d' : Int) (e' : Int) (first' : Po) (second' : Po) (lead' : Int) : Prop :=
  (v_monic first' ∧ v_law_poly_is (q_monic first') p' lead' ∧ ((!(q_law_poly_is (q_monic first') p' lead')) = false → v_law_32 p' q' d' e' first' second'))
noncomputable def q_law_27 (p' : List Int) (q' : List Int) (d' : Int) (e' : Int) (first' : Po) (second' : Po) (lead' : Int) : Bool :=
  q_law_30 p' q' d' e' first' second' (q_law_29 p' q' d' e' first' second' lead')
def v_law_27 (p' : List Int) (q' : List Int) (d' : Int) (e' : Int) (first' : Po) (second' : Po) (lead' : Int) : Prop :=
  (v_law_trimmed p' ∧ ((decide (((q_law_trimmed p').length : Int) > (0 : Int))) = true → v_law_28 p' q' d' e' first' second' lead') ∧ v_law_30 p' q' d' e' first' second' (q_law_29 p' q' d' e' first' second' lead'))
noncomputable def q_law_26 (p' : List Int) (q' : List Int) (d' : Int) (e' : Int) (first' : Po) (second' : Po) : Bool :=
  q_law_27 p' q' d' e' first' second' (1 : Int)
def v_law_26 (p' : List Int) (q' : List Int) (d' : Int) (e' : Int) (first' : Po) (second' : Po) : Prop :=
  v_law_27 p' q' d' e' first' second' (1 : Int)
noncomputable def q_law_24 (p' : List Int) (q' : List Int) (d' : Int) (e' : Int) (first' : Po) (second' : Po) (row' : List Po) (both' : Po) : Bool :=
  if ((!(q_law_is_divisor both' p' q')) || (!eqS q_Poly_eq row' ([q_Poly_init ([] : List Int) (1 : Int), first', second', first']))) then q_law_25 else q_law_26 p' q' d' e' first' second'
def v_law_24 (p' : List Int) (q' : List Int) (d' : Int) (e' : Int) (first' : Po) (second' : Po) (row' : List Po) (both' : Po) : Prop :=
  (v_law_is_divisor both' p' q' ∧ ((!(q_law_is_divisor both' p' q')) = false → v_Poly_init ([] : List Int) (1 : Int)) ∧ (((!(q_law_is_divisor both' p' q')) || (!eqS q_Poly_eq row' ([q_Poly_init ([] : List Int) (1 : Int), first', second', first']))) = false → v_law_26 p' q' d' e' first' second'))
noncomputable def q_law_23 (p' : List Int) (q' : List Int) (d' : Int) (e' : Int) (first' : Po) (second' : Po) (row' : List Po) : Bool :=
  q_law_24 p' q' d' e' first' second' row' (q_common_divisor_of row')
def v_law_23 (p' : List Int) (q' : List Int) (d' : Int) (e' : Int) (first' : Po) (second' : Po) (row' : List Po) : Prop :=
  (v_common_divisor_of row' ∧ v_law_24 p' q' d' e' first' second' row' (q_common_divisor_of row'))
noncomputable def q_law_22 (p' : List Int) (q' : List Int) (d' : Int) (e' : Int) (first' : Po) (second' : Po) : Bool :=
  q_law_23 p' q' d' e' first' second' ([q_Poly_init ([] : List Int) (1 : Int), first', second', first'])
def v_law_22 (p' : List Int) (q' : List Int) (d' : Int) (e' : Int) (first' : Po) (second' : Po) : Prop :=
  (v_Poly_init ([] : List Int) (1 : Int) ∧ v_law_23 p' q' d' e' first' second' ([q_Poly_init ([] : List Int) (1 : Int), first', second', first']))
noncomputable def q_law_20 (p' : List Int) (q' : List Int) (d' : Int) (e' : Int) (first' : Po) (second' : Po) : Bool :=
  if ((!(q_law_is_divisor (q_common_divisor_of [first']) p' ([] : List Int))) || (!(q_law_is_divisor (q_common_divisor_of ([] : List Po)) ([] : List Int) ([] : List Int)))) then q_law_21 else q_law_22 p' q' d' e' first' second'
def v_law_20 (p' : List Int) (q' : List Int) (d' : Int) (e' : Int) (first' : Po) (second' : Po) : Prop :=
  (v_common_divisor_of [first'] ∧ v_law_is_divisor (q_common_divisor_of [first']) p' ([] : List Int) ∧ ((!(q_law_is_divisor (q_common_divisor_of [first']) p' ([] : List Int))) = false → (v_common_divisor_of ([] : List Po) ∧ v_law_is_divisor (q_common_divisor_of ([] : List Po)) ([] : List Int) ([] : List Int))) ∧ (((!(q_law_is_divisor (q_common_divisor_of [first']) p' ([] : List Int))) || (!(q_law_is_divisor (q_common_divisor_of ([] : List Po)) ([] : List Int) ([] : List Int)))) = false → v_law_22 p' q' d' e' first' second'))
noncomputable def q_law_18 (p' : List Int) (q' : List Int) (d' : Int) (e' : Int) (first' : Po) (second' : Po) : Bool :=
  if (!(q_law_is_divisor (q_common_divisor_of ([second', first'])) p' q')) then q_law_19 else q_law_20 p' q' d' e' first' second'
def v_law_18 (p' : List Int) (q' : List Int) (d' : Int) (e' : Int) (first' : Po) (second' : Po) : Prop :=
  (v_common_divisor_of ([second', first']) ∧ v_law_is_divisor (q_common_divisor_of ([second', first'])) p' q' ∧ ((!(q_law_is_divisor (q_common_divisor_of ([second', first'])) p' q')) = false → v_law_20 p' q' d' e' first' second'))
noncomputable def q_law_16 (p' : List Int) (q' : List Int) (d' : Int) (e' : Int) (first' : Po) (second' : Po) : Bool :=
  if (!(q_law_is_divisor (q_common_divisor first' second') p' q')) then q_law_17 else q_law_18 p' q' d' e' first' second'
def v_law_16 (p' : List Int) (q' : List Int) (d' : Int) (e' : Int) (first' : Po) (second' : Po) : Prop :=
  (v_common_divisor first' second' ∧ v_law_is_divisor (q_common_divisor first' second') p' q' ∧ ((!(q_law_is_divisor (q_common_divisor first' second') p' q')) = false → v_law_18 p' q' d' e' first' second'))
noncomputable def q_law_15 (p' : List Int) (q' : List Int) (d' : Int) (e' : Int) (first' : Po) : Bool :=
  q_law_16 p' q' d' e' first' (q_Poly_init q' e')
def v_law_15 (p' : List Int) (q' : List Int) (d' : Int) (e' : Int) (first' : Po) : Prop :=
  (v_Poly_init q' e' ∧ v_law_16 p' q' d' e' first' (q_Poly_init q' e'))
noncomputable def q_law_14 (p' : List Int) (q' : List Int) (d' : Int) (e' : Int) : Bool :=
  q_law_15 p' q' d' e' (q_Poly_init p' d')
def v_law_14 (p' : List Int) (q' : List Int) (d' : Int) (e' : Int) : Prop :=
  (v_Poly_init p' d' ∧ v_law_15 p' q' d' e' (q_Poly_init p' d'))
noncomputable def q_law_13 (numbers_here' : List Int) (p' : List Int) (q' : List Int) (d' : Int) : Bool :=
  q_law_14 p' q' d' ((Int.fmod (Int.fdiv (gt numbers_here' (4 : Int)) (5 : Int)) (5 : Int)) + (1 : Int))
def v_law_13 (numbers_here' : List Int) (p' : List Int) (q' : List Int) (d' : Int) : Prop :=
  (inR numbers_here' (4 : Int) ∧ v_law_14 p' q' d' ((Int.fmod (Int.fdiv (gt numbers_here' (4 : Int)) (5 : Int)) (5 : Int)) + (1 : Int)))
noncomputable def q_law_12 (numbers_here' : List Int) (p' : List Int) (q' : List Int) : Bool :=
  q_law_13 numbers_here' p' q' ((Int.fmod (gt numbers_here' (4 : Int)) (5 : Int)) + (1 : Int))
def v_law_12 (numbers_here' : List Int) (p' : List Int) (q' : List Int) : Prop :=
  (inR numbers_here' (4 : Int) ∧ v_law_13 numbers_here' p' q' ((Int.fmod (gt numbers_here' (4 : Int)) (5 : Int)) + (1 : Int)))
noncomputable def q_law_9 (numbers_here' : List Int) (p' : List Int) (q' : List Int) : Bool :=
  q_law_12 numbers_here' p' (q_law_11 numbers_here' p' q')
def v_law_9 (numbers_here' : List Int) (p' : List Int) (q' : List Int) : Prop :=
  (inR numbers_here' (3 : Int) ∧ ((decide ((Int.fmod (gt numbers_here' (3 : Int)) (8 : Int)) = (2 : Int))) = false → inR numbers_here' (3 : Int)) ∧ v_law_12 numbers_here' p' (q_law_11 numbers_here' p' q'))
noncomputable def q_law_6 (numbers_here' : List Int) (p' : List Int) (q' : List Int) : Bool :=
  q_law_9 numbers_here' (q_law_8 numbers_here' p' q') q'
def v_law_6 (numbers_here' : List Int) (p' : List Int) (q' : List Int) : Prop :=
  (inR numbers_here' (3 : Int) ∧ ((decide ((Int.fmod (gt numbers_here' (3 : Int)) (8 : Int)) = (1 : Int))) = false → inR numbers_here' (3 : Int)) ∧ v_law_9 numbers_here' (q_law_8 numbers_here' p' q') q')
noncomputable def q_law_5 (numbers_here' : List Int) (g' : List Int) (b' : List Int) (p' : List Int) : Bool :=
  q_law_6 numbers_here' p' (q_law_product g' b')
def v_law_5 (numbers_here' : List Int) (g' : List Int) (b' : List Int) (p' : List Int) : Prop :=
  (v_law_product g' b' ∧ v_law_6 numbers_here' p' (q_law_product g' b'))
noncomputable def q_law_4 (numbers_here' : List Int) (g' : List Int) (a' : List Int) (b' : List Int) : Bool :=
  q_law_5 numbers_here' g' b' (q_law_product g' a')
def v_law_4 (numbers_here' : List Int) (g' : List Int) (a' : List Int) (b' : List Int) : Prop :=
  (v_law_product g' a' ∧ v_law_5 numbers_here' g' b' (q_law_product g' a'))
noncomputable def q_law_3 (numbers_here' : List Int) (g' : List Int) (a' : List Int) : Bool :=
  q_law_4 numbers_here' g' a' (q_law_coefs numbers_here' (11 : Int) (Int.fmod (gt numbers_here' (2 : Int)) (4 : Int)))
def v_law_3 (numbers_here' : List Int) (g' : List Int) (a' : List Int) : Prop :=
  (inR numbers_here' (2 : Int) ∧ v_law_coefs numbers_here' (11 : Int) (Int.fmod (gt numbers_here' (2 : Int)) (4 : Int)) ∧ v_law_4 numbers_here' g' a' (q_law_coefs numbers_here' (11 : Int) (Int.fmod (gt numbers_here' (2 : Int)) (4 : Int))))
noncomputable def q_law_2 (numbers_here' : List Int) (g' : List Int) : Bool :=
  q_law_3 numbers_here' g' (q_law_coefs numbers_here' (8 : Int) (Int.fmod (gt numbers_here' (1 : Int)) (4 : Int)))
def v_law_2 (numbers_here' : List Int) (g' : List Int) : Prop :=
  (inR numbers_here' (1 : Int) ∧ v_law_coefs numbers_here' (8 : Int) (Int.fmod (gt numbers_here' (1 : Int)) (4 : Int)) ∧ v_law_3 numbers_here' g' (q_law_coefs numbers_here' (8 : Int) (Int.fmod (gt numbers_here' (1 : Int)) (4 : Int))))
noncomputable def q_law_1 (numbers_here' : List Int) : Bool :=
  q_law_2 numbers_here' (q_law_coefs numbers_here' (5 : Int) (Int.fmod (gt numbers_here' (0 : Int)) (4 : Int)))
def v_law_1 (numbers_here' : List Int) : Prop :=
  (inR numbers_here' (0 : Int) ∧ v_law_coefs numbers_here' (5 : Int) (Int.fmod (gt numbers_here' (0 : Int)) (4 : Int)) ∧ v_law_2 numbers_here' (q_law_coefs numbers_here' (5 : Int) (Int.fmod (gt numbers_here' (0 : Int)) (4 : Int))))
noncomputable def q_law_0 (script' : List Int) : Bool :=
  q_law_1 (q_law_numbers script' (14 : Int))
def v_law_0 (script' : List Int) : Prop :=
  (v_law_numbers script' (14 : Int) ∧ v_law_1 (q_law_numbers script' (14 : Int)))
noncomputable def q_law (script' : List Int) : Bool :=
  q_law_0 script'
def v_law (script' : List Int) : Prop :=
  v_law_0 script'
theorem r_law_7 {j0 : Option Cel} {j2 : Option Cel} {j3 : Option Cel} {j4 : Option Cel} {j7 : Option Cel} {j8 : Option Cel} {j9 : Option Cel} {j10 : Option Cel} {j11 : Option Cel} {j12 : Option Cel} {j13 : Option Cel} (numbers_here' : List Int) (p' : List Int) (q' : List Int) : NxOk (b_law_0 [j0, cD (qL qI numbers_here'), j2, j3, j4, cO (p'.map qI), cO (q'.map qI), j7, j8, j9, j10, j11, j12, j13]) (fun (s : (List Int)) w => ∃ (j0 : Option Cel) (j2 : Option Cel) (j3 : Option Cel) (j4 : Option Cel) (j7 : Option Cel) (j8 : Option Cel) (j9 : Option Cel) (j10 : Option Cel) (j11 : Option Cel) (j12 : Option Cel) (j13 : Option Cel), w = [j0, cD (qL qI numbers_here'), j2, j3, j4, cO (s.map qI), cO (q'.map qI), j7, j8, j9, j10, j11, j12, j13]) (q_law_7 numbers_here' p' q') :=
  nx_st (ρ' := [_, cD (qL qI numbers_here'), _, _, _, cO (([] : List Int).map qI), cO (q'.map qI), _, _, _, _, _, _, _]) (st_set (ev_lst av_nil) rfl rfl) ⟨_, _, _, _, _, _, _, _, _, _, _, rfl⟩
theorem r_law_10 {j0 : Option Cel} {j2 : Option Cel} {j3 : Option Cel} {j4 : Option Cel} {j7 : Option Cel} {j8 : Option Cel} {j9 : Option Cel} {j10 : Option Cel} {j11 : Option Cel} {j12 : Option Cel} {j13 : Option Cel} (numbers_here' : List Int) (p' : List Int) (q' : List Int) : NxOk (b_law_1 [j0, cD (qL qI numbers_here'), j2, j3, j4, cO (p'.map qI), cO (q'.map qI), j7, j8, j9, j10, j11, j12, j13]) (fun (s : (List Int)) w => ∃ (j0 : Option Cel) (j2 : Option Cel) (j3 : Option Cel) (j4 : Option Cel) (j7 : Option Cel) (j8 : Option Cel) (j9 : Option Cel) (j10 : Option Cel) (j11 : Option Cel) (j12 : Option Cel) (j13 : Option Cel), w = [j0, cD (qL qI numbers_here'), j2, j3, j4, cO (p'.map qI), cO (s.map qI), j7, j8, j9, j10, j11, j12, j13]) (q_law_10 numbers_here' p' q') :=
  nx_st (ρ' := [_, cD (qL qI numbers_here'), _, _, _, cO (p'.map qI), cO (([] : List Int).map qI), _, _, _, _, _, _, _]) (st_set (ev_lst av_nil) rfl rfl) ⟨_, _, _, _, _, _, _, _, _, _, _, rfl⟩
theorem r_law_17 {j0 : Option Cel} {j1 : Option Cel} {j2 : Option Cel} {j3 : Option Cel} {j4 : Option Cel} {j5 : Option Cel} {j6 : Option Cel} {j7 : Option Cel} {j8 : Option Cel} {j9 : Option Cel} {j10 : Option Cel} {j11 : Option Cel} {j12 : Option Cel} {j13 : Option Cel}  : RtOk (b_law_2 [j0, j1, j2, j3, j4, j5, j6, j7, j8, j9, j10, j11, j12, j13]) (fun r x => x = .fro (qB r)) (q_law_17) :=
  rt_ret ev_c rfl (by simp)
theorem r_law_19 {j0 : Option Cel} {j1 : Option Cel} {j2 : Option Cel} {j3 : Option Cel} {j4 : Option Cel} {j5 : Option Cel} {j6 : Option Cel} {j7 : Option Cel} {j8 : Option Cel} {j9 : Option Cel} {j10 : Option Cel} {j11 : Option Cel} {j12 : Option Cel} {j13 : Option Cel}  : RtOk (b_law_3 [j0, j1, j2, j3, j4, j5, j6, j7, j8, j9, j10, j11, j12, j13]) (fun r x => x = .fro (qB r)) (q_law_19) :=
  rt_ret ev_c rfl (by simp)
theorem r_law_21 {j0 : Option Cel} {j1 : Option Cel} {j2 : Option Cel} {j3 : Option Cel} {j4 : Option Cel} {j5 : Option Cel} {j6 : Option Cel} {j7 : Option Cel} {j8 : Option Cel} {j9 : Option Cel} {j10 : Option Cel} {j11 : Option Cel} {j12 : Option Cel} {j13 : Option Cel}  : RtOk (b_law_4 [j0, j1, j2, j3, j4, j5, j6, j7, j8, j9, j10, j11, j12, j13]) (fun r x => x = .fro (qB r)) (q_law_21) :=
  rt_ret ev_c rfl (by simp)
theorem r_law_25 {j0 : Option Cel} {j1 : Option Cel} {j2 : Option Cel} {j3 : Option Cel} {j4 : Option Cel} {j5 : Option Cel} {j6 : Option Cel} {j7 : Option Cel} {j8 : Option Cel} {j9 : Option Cel} {j10 : Option Cel} {j11 : Option Cel} {j12 : Option Cel} {j13 : Option Cel}  : RtOk (b_law_5 [j0, j1, j2, j3, j4, j5, j6, j7, j8, j9, j10, j11, j12, j13]) (fun r x => x = .fro (qB r)) (q_law_25) :=
  rt_ret ev_c rfl (by simp)
theorem r_law_28 {j0 : Option Cel} {j1 : Option Cel} {j2 : Option Cel} {j3 : Option Cel} {j4 : Option Cel} {j11 : Option Cel} {j12 : Option Cel} (p' : List Int) (q' : List Int) (d' : Int) (e' : Int) (first' : Po) (second' : Po) (lead' : Int) (h : v_law_28 p' q' d' e' first' second' lead') : NxOk (b_law_6 [j0, j1, j2, j3, j4, cO (p'.map qI), cO (q'.map qI), cD (qI d'), cD (qI e'), cD (qPo first'), cD (qPo second'), j11, j12, cD (qI lead')]) (fun (s : Int) w => ∃ (j0 : Option Cel) (j1 : Option Cel) (j2 : Option Cel) (j3 : Option Cel) (j4 : Option Cel) (j11 : Option Cel) (j12 : Option Cel), w = [j0, j1, j2, j3, j4, cO (p'.map qI), cO (q'.map qI), cD (qI d'), cD (qI e'), cD (qPo first'), cD (qPo second'), j11, j12, cD (qI s)]) (q_law_28 p' q' d' e' first' second' lead') :=
  nx_st (ρ' := [_, _, _, _, _, cO (p'.map qI), cO (q'.map qI), cD (qI d'), cD (qI e'), cD (qPo first'), cD (qPo second'), _, _, cD (qI (gt (q_law_trimmed p') (-(1 : Int))))]) (st_set (ev_bor (ρ' := [_, _, _, _, _, cD (qL qI p'), cO (q'.map qI), cD (qI d'), cD (qI e'), cD (qPo first'), cD (qPo second'), _, _, cD (qI lead')]) rfl rfl (ev_e2 (ev_call (r_law_trimmed p' h.1) (av_cons ev_fro rfl av_nil)) (ev_e1 ev_c rfl) (g_ix (k := .own) (e := qI) h.2)) (nl_fro (e := qI) _)) rfl rfl) ⟨_, _, _, _, _, _, _, rfl⟩
theorem r_law_31 {j0 : Option Cel} {j1 : Option Cel} {j2 : Option Cel} {j3 : Option Cel} {j4 : Option Cel} {j5 : Option Cel} {j6 : Option Cel} {j7 : Option Cel} {j8 : Option Cel} {j9 : Option Cel} {j10 : Option Cel} {j11 : Option Cel} {j12 : Option Cel} {j13 : Option Cel}  : RtOk (b_law_7 [j0, j1, j2, j3, j4, j5, j6, j7, j8, j9, j10, j11, j12, j13]) (fun r x => x = .fro (qB r)) (q_law_31) :=
  rt_ret ev_c rfl (by simp)
theorem r_law_32 {j0 : Option Cel} {j1 : Option Cel} {j2 : Option Cel} {j3 : Option Cel} {j4 : Option Cel} {j11 : Option Cel} {j12 : Option Cel} {j13 : Option Cel} (p' : List Int) (q' : List Int) (d' : Int) (e' : Int) (first' : Po) (second' : Po) (h : v_law_32 p' q' d' e' first' second') : RtOk (b_law_8 [j0, j1, j2, j3, j4, cO (p'.map qI), cO (q'.map qI), cD (qI d'), cD (qI e'), cD (qPo first'), cD (qPo second'), j11, j12, j13]) (fun r x => x = .fro (qB r)) (q_law_32 p' q' d' e' first' second') :=
  rt_ret (ev_bor (ρ' := [_, _, _, _, _, cO (p'.map qI), cD (qL qI q'), cD (qI d'), cD (qI e'), cD (qPo first'), cD (qPo second'), _, _, _]) rfl rfl (ev_bor (ρ' := [_, _, _, _, _, cD (qL qI p'), cD (qL qI q'), cD (qI d'), cD (qI e'), cD (qPo first'), cD (qPo second'), _, _, _]) rfl rfl (ev_and (ev_call (r_law_poly_is first' p' d' h.1) (av_cons ev_fro rfl (av_cons ev_fro rfl (av_cons ev_fro rfl av_nil)))) (fun hb13 => ev_call (r_law_poly_is second' q' e' (h.2 hb13)) (av_cons ev_fro rfl (av_cons ev_fro rfl (av_cons ev_fro rfl av_nil))))) (nl_fro (e := qB) _)) (nl_fro (e := qB) _)) rfl (by simp)
theorem r_law_30 {j0 : Option Cel} {j1 : Option Cel} {j2 : Option Cel} {j3 : Option Cel} {j4 : Option Cel} {j11 : Option Cel} {j12 : Option Cel} (p' : List Int) (q' : List Int) (d' : Int) (e' : Int) (first' : Po) (second' : Po) (lead' : Int) (h : v_law_30 p' q' d' e' first' second' lead') : RtOk (b_law_9 [j0, j1, j2, j3, j4, cO (p'.map qI), cO (q'.map qI), cD (qI d'), cD (qI e'), cD (qPo first'), cD (qPo second'), j11, j12, cD (qI lead')]) (fun r x => x = .fro (qB r)) (q_law_30 p' q' d' e' first' second' lead') :=
  rt_sif (tv_bor (ρ' := [_, _, _, _, _, cD (qL qI p'), cO (q'.map qI), cD (qI d'), cD (qI e'), cD (qPo first'), cD (qPo second'), _, _, cD (qI lead')]) rfl rfl (tv_not (tv_tru (ev_call (r_law_poly_is (q_monic first') p' lead' h.2.1) (av_cons (ev_call (r_monic first' h.1) (av_cons ev_fro rfl av_nil)) rfl (av_cons ev_fro rfl (av_cons ev_fro rfl av_nil)))) rfl))) (fun hb12 => rt_seq r_law_31) (fun hb12 => RtOk.of (sq_nx rfl) (r_law_32 p' q' d' e' first' second' (h.2.2 hb12)))
theorem r_law_27 {j0 : Option Cel} {j1 : Option Cel} {j2 : Option Cel} {j3 : Option Cel} {j4 : Option Cel} {j11 : Option Cel} {j12 : Option Cel} (p' : List Int) (q' : List Int) (d' : Int) (e' : Int) (first' : Po) (second' : Po) (lead' : Int) (h : v_law_27 p' q' d' e' first' second' lead') : RtOk (b_law_10 [j0, j1, j2, j3, j4, cO (p'.map qI), cO (q'.map qI), cD (qI d'), cD (qI e'), cD (qPo first'), cD (qPo second'), j11, j12, cD (qI lead')]) (fun r x => x = .fro (qB r)) (q_law_27 p' q' d' e' first' second' lead') :=
  sq_NR (E := (fun (s : Int) w => ∃ (j0 : Option Cel) (j1 : Option Cel) (j2 : Option Cel) (j3 : Option Cel) (j4 : Option Cel) (j11 : Option Cel) (j12 : Option Cel), w = [j0, j1, j2, j3, j4, cO (p'.map qI), cO (q'.map qI), cD (qI d'), cD (qI e'), cD (qPo first'), cD (qPo second'), j11, j12, cD (qI s)])) (q := q_law_29 p' q' d' e' first' second' lead') (nx_if (tv_bor (ρ' := [_, _, _, _, _, cD (qL qI p'), cO (q'.map qI), cD (qI d'), cD (qI e'), cD (qPo first'), cD (qPo second'), _, _, cD (qI lead')]) rfl rfl (tv_b (ev_e2 (ev_e1 (ev_call (r_law_trimmed p' h.1) (av_cons ev_fro rfl av_nil)) (g_len (k := .own))) ev_c rfl))) (fun hb11 => r_law_28 p' q' d' e' first' second' lead' (h.2.1 hb11)) (fun hb11 => nx_next ⟨_, _, _, _, _, _, _, rfl⟩)) (fun w hw => by obtain ⟨_, _, _, _, _, _, _, rfl⟩ := hw; exact r_law_30 p' q' d' e' first' second' (q_law_29 p' q' d' e' first' second' lead') h.2.2)
theorem r_law_26 {j0 : Option Cel} {j1 : Option Cel} {j2 : Option Cel} {j3 : Option Cel} {j4 : Option Cel} {j11 : Option Cel} {j12 : Option Cel} {j13 : Option Cel} (p' : List Int) (q' : List Int) (d' : Int) (e' : Int) (first' : Po) (second' : Po) (h : v_law_26 p' q' d' e' first' second') : RtOk (b_law_11 [j0, j1, j2, j3, j4, cO (p'.map qI), cO (q'.map qI), cD (qI d'), cD (qI e'), cD (qPo first'), cD (qPo second'), j11, j12, j13]) (fun r x => x = .fro (qB r)) (q_law_26 p' q' d' e' first' second') :=
  RtOk.of (sq_nx (ρ' := [_, _, _, _, _, cO (p'.map qI), cO (q'.map qI), cD (qI d'), cD (qI e'), cD (qPo first'), cD (qPo second'), _, _, cD (qI (1 : Int))]) (st_set ev_c rfl rfl)) (r_law_27 p' q' d' e' first' second' (1 : Int) h)
theorem r_law_24 {j0 : Option Cel} {j1 : Option Cel} {j2 : Option Cel} {j3 : Option Cel} {j4 : Option Cel} {j13 : Option Cel} (p' : List Int) (q' : List Int) (d' : Int) (e' : Int) (first' : Po) (second' : Po) (row' : List Po) (both' : Po) (h : v_law_24 p' q' d' e' first' second' row' both') : RtOk (b_law_12 [j0, j1, j2, j3, j4, cO (p'.map qI), cO (q'.map qI), cD (qI d'), cD (qI e'), cD (qPo first'), cD (qPo second'), cO (row'.map qPo), cD (qPo both'), j13]) (fun r x => x = .fro (qB r)) (q_law_24 p' q' d' e' first' second' row' both') :=
  rt_sif (tv_bor (ρ' := [_, _, _, _, _, cO (p'.map qI), cD (qL qI q'), cD (qI d'), cD (qI e'), cD (qPo first'), cD (qPo second'), cO (row'.map qPo), cD (qPo both'), _]) rfl rfl (tv_bor (ρ' := [_, _, _, _, _, cD (qL qI p'), cD (qL qI q'), cD (qI d'), cD (qI e'), cD (qPo first'), cD (qPo second'), cO (row'.map qPo), cD (qPo both'), _]) rfl rfl (tv_or (tv_not (tv_tru (ev_call (r_law_is_divisor both' p' q' h.1) (av_cons ev_fro rfl (av_cons ev_fro rfl (av_cons ev_fro rfl av_nil)))) rfl)) (fun hb9 => tv_b (ev_e2 ev_own (ev_lst (av_cons (ev_call (r_Poly_init ([] : List Int) (1 : Int) (h.2.1 hb9)) (av_cons (ev_lst av_nil) rfl av_nil)) rfl (av_cons ev_fro rfl (av_cons ev_fro rfl (av_cons ev_fro rfl av_nil)))) (Nat.le_of_ble_eq_true rfl)) (g_NeK (k := .bor) (l := .own) (xs := row') (ys := [q_Poly_init ([] : List Int) (1 : Int), first', second', first']) (e := qPo) (c := 21) (fn := mfn 2 (fun ds => ds) f_Poly_eq) (q := q_Poly_eq) rfl (fun _ => ⟨_, rfl⟩) (fun x y => r_Poly_eq x y) rf_Poly_eq)))))) (fun hb10 => rt_seq r_law_25) (fun hb10 => RtOk.of (sq_nx rfl) (r_law_26 p' q' d' e' first' second' (h.2.2 hb10)))
theorem r_law_23 {j0 : Option Cel} {j1 : Option Cel} {j2 : Option Cel} {j3 : Option Cel} {j4 : Option Cel} {j12 : Option Cel} {j13 : Option Cel} (p' : List Int) (q' : List Int) (d' : Int) (e' : Int) (first' : Po) (second' : Po) (row' : List Po) (h : v_law_23 p' q' d' e' first' second' row') : RtOk (b_law_13 [j0, j1, j2, j3, j4, cO (p'.map qI), cO (q'.map qI), cD (qI d'), cD (qI e'), cD (qPo first'), cD (qPo second'), cO (row'.map qPo), j12, j13]) (fun r x => x = .fro (qB r)) (q_law_23 p' q' d' e' first' second' row') :=
  RtOk.of (sq_nx (ρ' := [_, _, _, _, _, cO (p'.map qI), cO (q'.map qI), cD (qI d'), cD (qI e'), cD (qPo first'), cD (qPo second'), cO (row'.map qPo), cD (qPo (q_common_divisor_of row')), _]) (st_set (ev_bor (ρ' := [_, _, _, _, _, cO (p'.map qI), cO (q'.map qI), cD (qI d'), cD (qI e'), cD (qPo first'), cD (qPo second'), cD (qL qPo row'), _, _]) rfl rfl (ev_call (r_common_divisor_of row' h.1) (av_cons ev_fro rfl av_nil)) (nl_fro (e := qPo) _)) rfl rfl)) (r_law_24 p' q' d' e' first' second' row' (q_common_divisor_of row') h.2)
theorem r_law_22 {j0 : Option Cel} {j1 : Option Cel} {j2 : Option Cel} {j3 : Option Cel} {j4 : Option Cel} {j11 : Option Cel} {j12 : Option Cel} {j13 : Option Cel} (p' : List Int) (q' : List Int) (d' : Int) (e' : Int) (first' : Po) (second' : Po) (h : v_law_22 p' q' d' e' first' second') : RtOk (b_law_14 [j0, j1, j2, j3, j4, cO (p'.map qI), cO (q'.map qI), cD (qI d'), cD (qI e'), cD (qPo first'), cD (qPo second'), j11, j12, j13]) (fun r x => x = .fro (qB r)) (q_law_22 p' q' d' e' first' second') :=
  RtOk.of (sq_nx (ρ' := [_, _, _, _, _, cO (p'.map qI), cO (q'.map qI), cD (qI d'), cD (qI e'), cD (qPo first'), cD (qPo second'), cO (([q_Poly_init ([] : List Int) (1 : Int), first', second', first']).map qPo), _, _]) (st_set (ev_lst (av_cons (ev_call (r_Poly_init ([] : List Int) (1 : Int) h.1) (av_cons (ev_lst av_nil) rfl av_nil)) rfl (av_cons ev_fro rfl (av_cons ev_fro rfl (av_cons ev_fro rfl av_nil)))) (Nat.le_of_ble_eq_true rfl)) rfl rfl)) (r_law_23 p' q' d' e' first' second' ([q_Poly_init ([] : List Int) (1 : Int), first', second', first']) h.2)
theorem r_law_20 {j0 : Option Cel} {j1 : Option Cel} {j2 : Option Cel} {j3 : Option Cel} {j4 : Option Cel} {j11 : Option Cel} {j12 : Option Cel} {j13 : Option Cel} (p' : List Int) (q' : List Int) (d' : Int) (e' : Int) (first' : Po) (second' : Po) (h : v_law_20 p' q' d' e' first' second') : RtOk (b_law_15 [j0, j1, j2, j3, j4, cO (p'.map qI), cO (q'.map qI), cD (qI d'), cD (qI e'), cD (qPo first'), cD (qPo second'), j11, j12, j13]) (fun r x => x = .fro (qB r)) (q_law_20 p' q' d' e' first' second') :=
  rt_sif (tv_bor (ρ' := [_, _, _, _, _, cD (qL qI p'), cO (q'.map qI), cD (qI d'), cD (qI e'), cD (qPo first'), cD (qPo second'), _, _, _]) rfl rfl (tv_or (tv_not (tv_tru (ev_call (r_law_is_divisor (q_common_divisor_of [first']) p' ([] : List Int) h.2.1) (av_cons (ev_call (r_common_divisor_of [first'] h.1) (av_cons (ev_lst (av_cons ev_fro rfl av_nil) (Nat.le_of_ble_eq_true rfl)) rfl av_nil)) rfl (av_cons ev_fro rfl (av_cons (ev_lst av_nil) rfl av_nil)))) rfl)) (fun hb7 => tv_not (tv_tru (ev_call (r_law_is_divisor (q_common_divisor_of ([] : List Po)) ([] : List Int) ([] : List Int) (h.2.2.1 hb7).2) (av_cons (ev_call (r_common_divisor_of ([] : List Po) (h.2.2.1 hb7).1) (av_cons (ev_lst av_nil) rfl av_nil)) rfl (av_cons (ev_lst av_nil) rfl (av_cons (ev_lst av_nil) rfl av_nil)))) rfl)))) (fun hb8 => rt_seq r_law_21) (fun hb8 => RtOk.of (sq_nx rfl) (r_law_22 p' q' d' e' first' second' (h.2.2.2 hb8)))
theorem r_law_18 {j0 : Option Cel} {j1 : Option Cel} {j2 : Option Cel} {j3 : Option Cel} {j4 : Option Cel} {j11 : Option Cel} {j12 : Option Cel} {j13 : Option Cel} (p' : List Int) (q' : List Int) (d' : Int) (e' : Int) (first' : Po) (second' : Po) (h : v_law_18 p' q' d' e' first' second') : RtOk (b_law_16 [j0, j1, j2, j3, j4, cO (p'.map qI), cO (q'.map qI), cD (qI d'), cD (qI e'), cD (qPo first'), cD (qPo second'), j11, j12, j13]) (fun r x => x = .fro (qB r)) (q_law_18 p' q' d' e' first' second') :=
  rt_sif (tv_bor (ρ' := [_, _, _, _, _, cO (p'.map qI), cD (qL qI q'), cD (qI d'), cD (qI e'), cD (qPo first'), cD (qPo second'), _, _, _]) rfl rfl (tv_bor (ρ' := [_, _, _, _, _, cD (qL qI p'), cD (qL qI q'), cD (qI d'), cD (qI e'), cD (qPo first'), cD (qPo second'), _, _, _]) rfl rfl (tv_not (tv_tru (ev_call (r_law_is_divisor (q_common_divisor_of ([second', first'])) p' q' h.2.1) (av_cons (ev_call (r_common_divisor_of ([second', first']) h.1) (av_cons (ev_lst (av_cons ev_fro rfl (av_cons ev_fro rfl av_nil)) (Nat.le_of_ble_eq_true rfl)) rfl av_nil)) rfl (av_cons ev_fro rfl (av_cons ev_fro rfl av_nil)))) rfl)))) (fun hb6 => rt_seq r_law_19) (fun hb6 => RtOk.of (sq_nx rfl) (r_law_20 p' q' d' e' first' second' (h.2.2 hb6)))
theorem r_law_16 {j0 : Option Cel} {j1 : Option Cel} {j2 : Option Cel} {j3 : Option Cel} {j4 : Option Cel} {j11 : Option Cel} {j12 : Option Cel} {j13 : Option Cel} (p' : List Int) (q' : List Int) (d' : Int) (e' : Int) (first' : Po) (second' : Po) (h : v_law_16 p' q' d' e' first' second') : RtOk (b_law_17 [j0, j1, j2, j3, j4, cO (p'.map qI), cO (q'.map qI), cD (qI d'), cD (qI e'), cD (qPo first'), cD (qPo second'), j11, j12, j13]) (fun r x => x = .fro (qB r)) (q_law_16 p' q' d' e' first' second') :=
  rt_sif (tv_bor (ρ' := [_, _, _, _, _, cO (p'.map qI), cD (qL qI q'), cD (qI d'), cD (qI e'), cD (qPo first'), cD (qPo second'), _, _, _]) rfl rfl (tv_bor (ρ' := [_, _, _, _, _, cD (qL qI p'), cD (qL qI q'), cD (qI d'), cD (qI e'), cD (qPo first'), cD (qPo second'), _, _, _]) rfl rfl (tv_not (tv_tru (ev_call (r_law_is_divisor (q_common_divisor first' second') p' q' h.2.1) (av_cons (ev_call (r_common_divisor first' second' h.1) (av_cons ev_fro rfl (av_cons ev_fro rfl av_nil))) rfl (av_cons ev_fro rfl (av_cons ev_fro rfl av_nil)))) rfl)))) (fun hb5 => rt_seq r_law_17) (fun hb5 => RtOk.of (sq_nx rfl) (r_law_18 p' q' d' e' first' second' (h.2.2 hb5)))
theorem r_law_15 {j0 : Option Cel} {j1 : Option Cel} {j2 : Option Cel} {j3 : Option Cel} {j4 : Option Cel} {j10 : Option Cel} {j11 : Option Cel} {j12 : Option Cel} {j13 : Option Cel} (p' : List Int) (q' : List Int) (d' : Int) (e' : Int) (first' : Po) (h : v_law_15 p' q' d' e' first') : RtOk (b_law_18 [j0, j1, j2, j3, j4, cO (p'.map qI), cO (q'.map qI), cD (qI d'), cD (qI e'), cD (qPo first'), j10, j11, j12, j13]) (fun r x => x = .fro (qB r)) (q_law_15 p' q' d' e' first') :=
  RtOk.of (sq_nx (ρ' := [_, _, _, _, _, cO (p'.map qI), cO (q'.map qI), cD (qI d'), cD (qI e'), cD (qPo first'), cD (qPo (q_Poly_init q' e')), _, _, _]) (st_set (ev_bor (ρ' := [_, _, _, _, _, cO (p'.map qI), cD (qL qI q'), cD (qI d'), cD (qI e'), cD (qPo first'), _, _, _, _]) rfl rfl (ev_call (r_Poly_init q' e' h.1) (av_cons ev_fro rfl (av_cons ev_fro rfl av_nil))) (nl_fro (e := qPo) _)) rfl rfl)) (r_law_16 p' q' d' e' first' (q_Poly_init q' e') h.2)
theorem r_law_14 {j0 : Option Cel} {j1 : Option Cel} {j2 : Option Cel} {j3 : Option Cel} {j4 : Option Cel} {j9 : Option Cel} {j10 : Option Cel} {j11 : Option Cel} {j12 : Option Cel} {j13 : Option Cel} (p' : List Int) (q' : List Int) (d' : Int) (e' : Int) (h : v_law_14 p' q' d' e') : RtOk (b_law_19 [j0, j1, j2, j3, j4, cO (p'.map qI), cO (q'.map qI), cD (qI d'), cD (qI e'), j9, j10, j11, j12, j13]) (fun r x => x = .fro (qB r)) (q_law_14 p' q' d' e') :=
  RtOk.of (sq_nx (ρ' := [_, _, _, _, _, cO (p'.map qI), cO (q'.map qI), cD (qI d'), cD (qI e'), cD (qPo (q_Poly_init p' d')), _, _, _, _]) (st_set (ev_bor (ρ' := [_, _, _, _, _, cD (qL qI p'), cO (q'.map qI), cD (qI d'), cD (qI e'), _, _, _, _, _]) rfl rfl (ev_call (r_Poly_init p' d' h.1) (av_cons ev_fro rfl (av_cons ev_fro rfl av_nil))) (nl_fro (e := qPo) _)) rfl rfl)) (r_law_15 p' q' d' e' (q_Poly_init p' d') h.2)
theorem r_law_13 {j0 : Option Cel} {j2 : Option Cel} {j3 : Option Cel} {j4 : Option Cel} {j8 : Option Cel} {j9 : Option Cel} {j10 : Option Cel} {j11 : Option Cel} {j12 : Option Cel} {j13 : Option Cel} (numbers_here' : List Int) (p' : List Int) (q' : List Int) (d' : Int) (h : v_law_13 numbers_here' p' q' d') : RtOk (b_law_20 [j0, cD (qL qI numbers_here'), j2, j3, j4, cO (p'.map qI), cO (q'.map qI), cD (qI d'), j8, j9, j10, j11, j12, j13]) (fun r x => x = .fro (qB r)) (q_law_13 numbers_here' p' q' d') :=
  RtOk.of (sq_nx (ρ' := [_, cD (qL qI numbers_here'), _, _, _, cO (p'.map qI), cO (q'.map qI), cD (qI d'), cD (qI ((Int.fmod (Int.fdiv (gt numbers_here' (4 : Int)) (5 : Int)) (5 : Int)) + (1 : Int))), _, _, _, _, _]) (st_set (ev_e2 (ev_e2 (ev_e2 (ev_e2 ev_fro ev_c (g_ix (k := .fro) (e := qI) h.1)) ev_c (g_div (by decide))) ev_c (g_mod (by decide))) ev_c rfl) rfl rfl)) (r_law_14 p' q' d' ((Int.fmod (Int.fdiv (gt numbers_here' (4 : Int)) (5 : Int)) (5 : Int)) + (1 : Int)) h.2)
theorem r_law_12 {j0 : Option Cel} {j2 : Option Cel} {j3 : Option Cel} {j4 : Option Cel} {j7 : Option Cel} {j8 : Option Cel} {j9 : Option Cel} {j10 : Option Cel} {j11 : Option Cel} {j12 : Option Cel} {j13 : Option Cel} (numbers_here' : List Int) (p' : List Int) (q' : List Int) (h : v_law_12 numbers_here' p' q') : RtOk (b_law_21 [j0, cD (qL qI numbers_here'), j2, j3, j4, cO (p'.map qI), cO (q'.map qI), j7, j8, j9, j10, j11, j12, j13]) (fun r x => x = .fro (qB r)) (q_law_12 numbers_here' p' q') :=
  RtOk.of (sq_nx (ρ' := [_, cD (qL qI numbers_here'), _, _, _, cO (p'.map qI), cO (q'.map qI), cD (qI ((Int.fmod (gt numbers_here' (4 : Int)) (5 : Int)) + (1 : Int))), _, _, _, _, _, _]) (st_set (ev_e2 (ev_e2 (ev_e2 ev_fro ev_c (g_ix (k := .fro) (e := qI) h.1)) ev_c (g_mod (by decide))) ev_c rfl) rfl rfl)) (r_law_13 numbers_here' p' q' ((Int.fmod (gt numbers_here' (4 : Int)) (5 : Int)) + (1 : Int)) h.2)
theorem r_law_9 {j0 : Option Cel} {j2 : Option Cel} {j3 : Option Cel} {j4 : Option Cel} {j7 : Option Cel} {j8 : Option Cel} {j9 : Option Cel} {j10 : Option Cel} {j11 : Option Cel} {j12 : Option Cel} {j13 : Option Cel} (numbers_here' : List Int) (p' : List Int) (q' : List Int) (h : v_law_9 numbers_here' p' q') : RtOk (b_law_22 [j0, cD (qL qI numbers_here'), j2, j3, j4, cO (p'.map qI), cO (q'.map qI), j7, j8, j9, j10, j11, j12, j13]) (fun r x => x = .fro (qB r)) (q_law_9 numbers_here' p' q') :=
  sq_NR (E := (fun (s : (List Int)) w => ∃ (j0 : Option Cel) (j2 : Option Cel) (j3 : Option Cel) (j4 : Option Cel) (j7 : Option Cel) (j8 : Option Cel) (j9 : Option Cel) (j10 : Option Cel) (j11 : Option Cel) (j12 : Option Cel) (j13 : Option Cel), w = [j0, cD (qL qI numbers_here'), j2, j3, j4, cO (p'.map qI), cO (s.map qI), j7, j8, j9, j10, j11, j12, j13])) (q := q_law_11 numbers_here' p' q') (nx_if (tv_or (tv_b (ev_e2 (ev_e2 (ev_e2 ev_fro ev_c (g_ix (k := .fro) (e := qI) h.1)) ev_c (g_mod (by decide))) ev_c g_eqI)) (fun hb3 => tv_b (ev_e2 (ev_e2 (ev_e2 ev_fro ev_c (g_ix (k := .fro) (e := qI) (h.2.1 hb3))) ev_c (g_mod (by decide))) ev_c g_eqI))) (fun hb4 => r_law_10 numbers_here' p' q') (fun hb4 => nx_next ⟨_, _, _, _, _, _, _, _, _, _, _, rfl⟩)) (fun w hw => by obtain ⟨_, _, _, _, _, _, _, _, _, _, _, rfl⟩ := hw; exact r_law_12 numbers_here' p' (q_law_11 numbers_here' p' q') h.2.2)
theorem r_law_6 {j0 : Option Cel} {j2 : Option Cel} {j3 : Option Cel} {j4 : Option Cel} {j7 : Option Cel} {j8 : Option Cel} {j9 : Option Cel} {j10 : Option Cel} {j11 : Option Cel} {j12 : Option Cel} {j13 : Option Cel} (numbers_here' : List Int) (p' : List Int) (q' : List Int) (h : v_law_6 numbers_here' p' q') : RtOk (b_law_23 [j0, cD (qL qI numbers_here'), j2, j3, j4, cO (p'.map qI), cO (q'.map qI), j7, j8, j9, j10, j11, j12, j13]) (fun r x => x = .fro (qB r)) (q_law_6 numbers_here' p' q') :=
  sq_NR (E := (fun (s : (List Int)) w => ∃ (j0 : Option Cel) (j2 : Option Cel) (j3 : Option Cel) (j4 : Option Cel) (j7 : Option Cel) (j8 : Option Cel) (j9 : Option Cel) (j10 : Option Cel) (j11 : Option Cel) (j12 : Option Cel) (j13 : Option Cel), w = [j0, cD (qL qI numbers_here'), j2, j3, j4, cO (s.map qI), cO (q'.map qI), j7, j8, j9, j10, j11, j12, j13])) (q := q_law_8 numbers_here' p' q') (nx_if (tv_or (tv_b (ev_e2 (ev_e2 (ev_e2 ev_fro ev_c (g_ix (k := .fro) (e := qI) h.1)) ev_c (g_mod (by decide))) ev_c g_eqI)) (fun hb1 => tv_b (ev_e2 (ev_e2 (ev_e2 ev_fro ev_c (g_ix (k := .fro) (e := qI) (h.2.1 hb1))) ev_c (g_mod (by decide))) ev_c g_eqI))) (fun hb2 => r_law_7 numbers_here' p' q') (fun hb2 => nx_next ⟨_, _, _, _, _, _, _, _, _, _, _, rfl⟩)) (fun w hw => by obtain ⟨_, _, _, _, _, _, _, _, _, _, _, rfl⟩ := hw; exact r_law_9 numbers_here' (q_law_8 numbers_here' p' q') q' h.2.2)
theorem r_law_5 {j0 : Option Cel} {j3 : Option Cel} {j6 : Option Cel} {j7 : Option Cel} {j8 : Option Cel} {j9 : Option Cel} {j10 : Option Cel} {j11 : Option Cel} {j12 : Option Cel} {j13 : Option Cel} (numbers_here' : List Int) (g' : List Int) (b' : List Int) (p' : List Int) (h : v_law_5 numbers_here' g' b' p') : RtOk (b_law_24 [j0, cD (qL qI numbers_here'), cD (qL qI g'), j3, cO (b'.map qI), cO (p'.map qI), j6, j7, j8, j9, j10, j11, j12, j13]) (fun r x => x = .fro (qB r)) (q_law_5 numbers_here' g' b' p') :=
  RtOk.of (sq_nx (ρ' := [_, cD (qL qI numbers_here'), cD (qL qI g'), _, cD (qL qI b'), cO (p'.map qI), cO ((q_law_product g' b').map qI), _, _, _, _, _, _, _]) (fz_own (ρ' := [_, cD (qL qI numbers_here'), cD (qL qI g'), _, cD (qL qI b'), cO (p'.map qI), _, _, _, _, _, _, _, _]) rfl rfl (fz_fro rfl (st_set (ev_call (r_law_product g' b' h.1) (av_cons ev_fro rfl (av_cons ev_fro rfl av_nil))) rfl rfl)))) (r_law_6 numbers_here' p' (q_law_product g' b') h.2)
theorem r_law_4 {j0 : Option Cel} {j5 : Option Cel} {j6 : Option Cel} {j7 : Option Cel} {j8 : Option Cel} {j9 : Option Cel} {j10 : Option Cel} {j11 : Option Cel} {j12 : Option Cel} {j13 : Option Cel} (numbers_here' : List Int) (g' : List Int) (a' : List Int) (b' : List Int) (h : v_law_4 numbers_here' g' a' b') : RtOk (b_law_25 [j0, cD (qL qI numbers_here'), cO (g'.map qI), cO (a'.map qI), cO (b'.map qI), j5, j6, j7, j8, j9, j10, j11, j12, j13]) (fun r x => x = .fro (qB r)) (q_law_4 numbers_here' g' a' b') :=
  RtOk.of (sq_nx (ρ' := [_, cD (qL qI numbers_here'), cD (qL qI g'), cD (qL qI a'), cO (b'.map qI), cO ((q_law_product g' a').map qI), _, _, _, _, _, _, _, _]) (fz_own (ρ' := [_, cD (qL qI numbers_here'), cO (g'.map qI), cD (qL qI a'), cO (b'.map qI), _, _, _, _, _, _, _, _, _]) rfl rfl (fz_own (ρ' := [_, cD (qL qI numbers_here'), cD (qL qI g'), cD (qL qI a'), cO (b'.map qI), _, _, _, _, _, _, _, _, _]) rfl rfl (st_set (ev_call (r_law_product g' a' h.1) (av_cons ev_fro rfl (av_cons ev_fro rfl av_nil))) rfl rfl)))) (r_law_5 numbers_here' g' b' (q_law_product g' a') h.2)
theorem r_law_3 {j0 : Option Cel} {j4 : Option Cel} {j5 : Option Cel} {j6 : Option Cel} {j7 : Option Cel} {j8 : Option Cel} {j9 : Option Cel} {j10 : Option Cel} {j11 : Option Cel} {j12 : Option Cel} {j13 : Option Cel} (numbers_here' : List Int) (g' : List Int) (a' : List Int) (h : v_law_3 numbers_here' g' a') : RtOk (b_law_26 [j0, cD (qL qI numbers_here'), cO (g'.map qI), cO (a'.map qI), j4, j5, j6, j7, j8, j9, j10, j11, j12, j13]) (fun r x => x = .fro (qB r)) (q_law_3 numbers_here' g' a') :=
  RtOk.of (sq_nx (ρ' := [_, cD (qL qI numbers_here'), cO (g'.map qI), cO (a'.map qI), cO ((q_law_coefs numbers_here' (11 : Int) (Int.fmod (gt numbers_here' (2 : Int)) (4 : Int))).map qI), _, _, _, _, _, _, _, _, _]) (fz_fro rfl (st_set (ev_call (r_law_coefs numbers_here' (11 : Int) (Int.fmod (gt numbers_here' (2 : Int)) (4 : Int)) h.2.1) (av_cons ev_fro rfl (av_cons ev_c rfl (av_cons (ev_e2 (ev_e2 ev_fro ev_c (g_ix (k := .fro) (e := qI) h.1)) ev_c (g_mod (by decide))) rfl av_nil)))) rfl rfl))) (r_law_4 numbers_here' g' a' (q_law_coefs numbers_here' (11 : Int) (Int.fmod (gt numbers_here' (2 : Int)) (4 : Int))) h.2.2)
theorem r_law_2 {j0 : Option Cel} {j3 : Option Cel} {j4 : Option Cel} {j5 : Option Cel} {j6 : Option Cel} {j7 : Option Cel} {j8 : Option Cel} {j9 : Option Cel} {j10 : Option Cel} {j11 : Option Cel} {j12 : Option Cel} {j13 : Option Cel} (numbers_here' : List Int) (g' : List Int) (h : v_law_2 numbers_here' g') : RtOk (b_law_27 [j0, cD (qL qI numbers_here'), cO (g'.map qI), j3, j4, j5, j6, j7, j8, j9, j10, j11, j12, j13]) (fun r x => x = .fro (qB r)) (q_law_2 numbers_here' g') :=
  RtOk.of (sq_nx (ρ' := [_, cD (qL qI numbers_here'), cO (g'.map qI), cO ((q_law_coefs numbers_here' (8 : Int) (Int.fmod (gt numbers_here' (1 : Int)) (4 : Int))).map qI), _, _, _, _, _, _, _, _, _, _]) (fz_fro rfl (st_set (ev_call (r_law_coefs numbers_here' (8 : Int) (Int.fmod (gt numbers_here' (1 : Int)) (4 : Int)) h.2.1) (av_cons ev_fro rfl (av_cons ev_c rfl (av_cons (ev_e2 (ev_e2 ev_fro ev_c (g_ix (k := .fro) (e := qI) h.1)) ev_c (g_mod (by decide))) rfl av_nil)))) rfl rfl))) (r_law_3 numbers_here' g' (q_law_coefs numbers_here' (8 : Int) (Int.fmod (gt numbers_here' (1 : Int)) (4 : Int))) h.2.2)
theorem r_law_1 {j0 : Option Cel} {j2 : Option Cel} {j3 : Option Cel} {j4 : Option Cel} {j5 : Option Cel} {j6 : Option Cel} {j7 : Option Cel} {j8 : Option Cel} {j9 : Option Cel} {j10 : Option Cel} {j11 : Option Cel} {j12 : Option Cel} {j13 : Option Cel} (numbers_here' : List Int) (h : v_law_1 numbers_here') : RtOk (b_law_28 [j0, cO (numbers_here'.map qI), j2, j3, j4, j5, j6, j7, j8, j9, j10, j11, j12, j13]) (fun r x => x = .fro (qB r)) (q_law_1 numbers_here') :=
  RtOk.of (sq_nx (ρ' := [_, cD (qL qI numbers_here'), cO ((q_law_coefs numbers_here' (5 : Int) (Int.fmod (gt numbers_here' (0 : Int)) (4 : Int))).map qI), _, _, _, _, _, _, _, _, _, _, _]) (fz_own (ρ' := [_, cD (qL qI numbers_here'), _, _, _, _, _, _, _, _, _, _, _, _]) rfl rfl (st_set (ev_call (r_law_coefs numbers_here' (5 : Int) (Int.fmod (gt numbers_here' (0 : Int)) (4 : Int)) h.2.1) (av_cons ev_fro rfl (av_cons ev_c rfl (av_cons (ev_e2 (ev_e2 ev_fro ev_c (g_ix (k := .fro) (e := qI) h.1)) ev_c (g_mod (by decide))) rfl av_nil)))) rfl rfl))) (r_law_2 numbers_here' (q_law_coefs numbers_here' (5 : Int) (Int.fmod (gt numbers_here' (0 : Int)) (4 : Int))) h.2.2)
theorem r_law_0 {j1 : Option Cel} {j2 : Option Cel} {j3 : Option Cel} {j4 : Option Cel} {j5 : Option Cel} {j6 : Option Cel} {j7 : Option Cel} {j8 : Option Cel} {j9 : Option Cel} {j10 : Option Cel} {j11 : Option Cel} {j12 : Option Cel} {j13 : Option Cel} (script' : List Int) (h : v_law_0 script') : RtOk (b_law_29 [cD (qL qI script'), j1, j2, j3, j4, j5, j6, j7, j8, j9, j10, j11, j12, j13]) (fun r x => x = .fro (qB r)) (q_law_0 script') :=
  RtOk.of (sq_nx (ρ' := [cD (qL qI script'), cO ((q_law_numbers script' (14 : Int)).map qI), _, _, _, _, _, _, _, _, _, _, _, _]) (st_set (ev_call (r_law_numbers script' (14 : Int) h.1) (av_cons ev_fro rfl (av_cons ev_c rfl av_nil))) rfl rfl)) (r_law_1 (q_law_numbers script' (14 : Int)) h.2)
theorem r_law (script' : List Int) (h : v_law script') : f_law [qL qI script'] = some (.ok (.fro (qB (q_law script')))) :=
  fn_F (e := qB) (r_law_0 script' h)
end G
set_option maxHeartbeats 2000000
namespace G
open PySem PySem.Spec L2 Pd
structure MD (d : Po) (c : Nat) : Prop where
  s : PoS d 6 c
  mon : d.coefs ≠ [] → (pv d).cf (d.coefs.length - 1) = 1
theorem nil_po {d : Po} {n B : Nat} (h : PoS d n B) (z : d.coefs = []) {m c : Nat} (hc : 0 < c) : PoS d m c := by
  have k := h.cop
  rw [z, show cont ([] : List Int) = 0 from rfl, Nat.gcd_zero_left] at k
  refine ⟨h.pos, h.cop, h.last, by rw [z]; exact Nat.zero_le _, fun k => by rw [z, co_nil]; exact Sm.zero hc, ?_⟩
  have : d.den = 1 := by have := h.pos; omega
  rw [this]; exact Pd.one_sm hc
theorem cdstep {x y : Po} {c : Nat} (hx : PoS x 6 c) (hy : PoS y 6 c) (hW : (6 + 3) * (Sg 6 c + 1) ≤ 30000000) (hE : Eb 6 c ≤ 10000000) : v_common_divisor x y ∧ MD (q_common_divisor x y) (2 * Eb 6 c + 1) ∧ Gcd (pv (q_common_divisor x y)) (pv x) (pv y) := by
  obtain ⟨v, g, z, nz, B, sB⟩ := cd_spec hx hy (by decide) hW hE
  refine ⟨v, ?_, g⟩
  by_cases h : x.coefs ≠ [] ∨ y.coefs ≠ []
  · obtain ⟨s, n0, m⟩ := nz h
    exact ⟨s, fun _ => m⟩
  · have hx0 : x.coefs = [] := Classical.byContradiction fun w => h (.inl w)
    have hy0 : y.coefs = [] := Classical.byContradiction fun w => h (.inr w)
    have e := z hx0 hy0
    exact ⟨nil_po sB e (by omega), fun w => absurd e w⟩
theorem gcd_two {g1 g2 p q : Ps Rat} (h1 : Gcd g1 0 q) (h2 : Gcd g2 g1 p) : Gcd g2 p q := by
  obtain ⟨u, v, hu, hv, e⟩ := h2.bz
  obtain ⟨s, t, hs, ht, e'⟩ := h1.bz
  exact ⟨h2.r, h2.l.trans h1.r, v, u * t, hv, hu.mul ht, by rw [e, e']; grind⟩
theorem gcd_row {g0 g1 g2 g3 p q : Ps Rat} (h0 : Gcd g0 0 0) (h1 : Gcd g1 g0 p) (h2 : Gcd g2 g1 q) (h3 : Gcd g3 g2 p) : Gcd g3 p q := by
  obtain ⟨u, v, hu, hv, e⟩ := h3.bz
  obtain ⟨s, t, hs, ht, e1'⟩ := h2.bz
  obtain ⟨a, b, ha, hb, e2'⟩ := h1.bz
  obtain ⟨c, d, hc, hd, e3'⟩ := h0.bz
  exact ⟨h3.r, h3.l.trans h2.r, u * s * b + v, u * t, ((hu.mul hs).mul hb).add hv, hu.mul ht, by rw [e, e1', e2', e3']; grind⟩
theorem gcd_l {g f q h : Ps Rat} {d : Int} (d0 : d ≠ 0) (e : h = ci d * f) (k : Gcd g f q) : Gcd g h q := by
  refine Gcd.cl (inv_ne (ic_ne d0)) ?_
  have k1 := cc (ic_ne d0)
  have : Ps.c (d : Rat)⁻¹ * h = f := by
    rw [e]
    have : Ps.c (d : Rat)⁻¹ * (ci d * f) = (Ps.c (d : Rat) * Ps.c (d : Rat)⁻¹) * f := by grind
    rw [this, k1]; grind
  rw [this]; exact k
theorem gcd_both {g f q h k : Ps Rat} {d e : Int} (d0 : d ≠ 0) (e0 : e ≠ 0) (ef : h = ci d * f) (eq : k = ci e * q) (w : Gcd g f q) : Gcd g h k := gcd_l d0 ef (gcd_l e0 eq w.symm).symm
theorem divisor_ok {d : Po} {p q : List Int} {c : Nat} (h : MD d c) (hc : c ≤ 1000000) (hp : LS p 6 11) (hq : LS q 6 11) (g : Gcd (pv d) (lv p) (lv q)) : v_law_is_divisor d p q ∧ q_law_is_divisor d p q = true := by
  obtain ⟨v1, e1q⟩ := lawPolyIs_r (zs := d.coefs) h.s h.s.ls h.s.d h.s.ne' (by omega) (by omega) (by decide) (by decide) (pv_lv h.s)
  obtain ⟨v2, F, tF, gF, eF⟩ := degree_spec hp hq (by decide) (by decide)
  have ln : d.coefs.length = F.length := by
    by_cases z : d.coefs = []
    · have pz : pv d = 0 := pv_nil z
      rw [pz] at g
      have fz : F = [] := Classical.byContradiction fun w => by
        have := (tF.dg w).ne
        obtain ⟨a, -, ea⟩ := g.l
        obtain ⟨b, -, eb⟩ := g.r
        obtain ⟨u, v, -, -, e⟩ := gF.bz
        exact this (by rw [e, ea, eb]; grind)
      rw [z, fz]
    · have dd := pv_ne h.s z
      have fz : F ≠ [] := fun w => dd.ne (by
        have lz : lv F = 0 := by rw [w]; exact lv_nil
        rw [lz] at gF
        obtain ⟨a, -, ea⟩ := gF.l
        obtain ⟨b, -, eb⟩ := gF.r
        obtain ⟨u, v, -, -, e⟩ := g.bz
        rw [e, ea, eb]; grind)
      have := Gcd.deg g gF dd (tF.dg fz)
      have a1 := po_ne.mp z
      have a2 := Pd.len_ne.mp fz
      omega
  obtain ⟨wp, tp⟩ := ltrim_spec p
  obtain ⟨wq, tq⟩ := ltrim_spec q
  have lp := trim_ls hp
  have lq := trim_ls hq
  have r10 : d.coefs ≠ [] → v_law_is_divisor_10 p q d.coefs ∧ q_law_is_divisor_10 p q d.coefs = true := fun z => by
    have dd := pv_ne h.s z
    have td : Tr d.coefs := fun w => h.s.last w
    have key : ∀ (x : List Int), LS x 6 11 → Dv (pv d) (lv x) → v_law_rest (trim x) d.coefs ∧ (q_law_rest (trim x) d.coefs).length = 0 := fun x hx dv => by
      have lx := trim_ls hx
      have lxl := lx.len
      have dl := h.s.len
      have mb : ((trim x).length + 1 - d.coefs.length) * (c + 1) ≤ 7 * (c + 1) := Nat.mul_le_mul_right _ (by omega)
      obtain ⟨v, tr, sl, -, a, Q, a0, pQ, e⟩ := rest_spec lx h.s.ls z td (by decide) (by decide) (by omega)
      refine ⟨v, Classical.byContradiction fun w => ?_⟩
      have rne : q_law_rest (trim x) d.coefs ≠ [] := fun z => w (by rw [z]; rfl)
      have dr := tr.dg rne
      have dvd : Dv (pv d) (lv (q_law_rest (trim x) d.coefs)) := by
        obtain ⟨b, pb, eb⟩ := dv
        refine ⟨ci a * b - Q * ci d.den, ((Pl.c _).mul pb).sub (pQ.mul (Pl.c _)), ?_⟩
        rw [pv_lv h.s, trim_lv, eb] at e
        have : lv (q_law_rest (trim x) d.coefs) = ci a * (pv d * b) - Q * (Ps.c (d.den : Rat) * pv d) := by rw [e]; grind
        rw [this]
        show _ = pv d * (ci a * b - Q * Ps.c (d.den : Rat))
        grind
      have := dvd.deg dd dr
      have a1 := po_ne.mp z
      have a2 := Pd.len_ne.mp rne
      omega
    obtain ⟨k1, k2⟩ := key p hp g.l
    obtain ⟨k3, k4⟩ := key q hq g.r
    unfold v_law_is_divisor_10 q_law_is_divisor_10
    rw [tp, tq, k2, k4]
    exact ⟨⟨wp, k1, fun _ => ⟨wq, k3⟩⟩, rfl⟩
  have e3 : decide ((d.coefs.length : Int) = q_law_degree p q + 1) = true := decide_eq_true (by rw [eF, ln]; omega)
  have r3 : v_law_is_divisor_3 d p q (q_law_degree p q) ∧ q_law_is_divisor_3 d p q (q_law_degree p q) = true := by
    unfold v_law_is_divisor_3 q_law_is_divisor_3 v_law_is_divisor_5 q_law_is_divisor_5
    rw [e3]
    by_cases w : q_law_degree p q < 0
    · rw [decide_eq_true w]
      exact ⟨fun _ z => (nomatch z), rfl⟩
    · rw [decide_eq_false w]
      have z : d.coefs ≠ [] := fun z => by rw [z] at ln; simp at ln; rw [eF, ← ln] at w; simp at w
      have l0 : 0 < d.coefs.length := Pd.len_ne.mp z
      obtain ⟨m1, m2⟩ := r10 z
      have el : decide (gt d.coefs (-(1 : Int)) = d.den) = true := decide_eq_true (by
        rw [gt_last l0]
        have k := h.mon z
        have k2 : (co d.coefs (d.coefs.length - 1) : Rat) / (d.den : Rat) = 1 := k
        have k3 := h.s.ne
        refine ic_eq ?_
        rw [Rat.div_def] at k2
        have k4 := Rat.mul_inv_cancel _ k3
        generalize (d.den : Rat)⁻¹ = i at *
        generalize (co d.coefs (d.coefs.length - 1) : Rat) = x at *
        generalize (d.den : Rat) = y at *
        grind)
      unfold v_law_is_divisor_7 q_law_is_divisor_7 v_law_is_divisor_9 q_law_is_divisor_9
      rw [el]
      exact ⟨fun _ _ => ⟨inR_neg l0, fun _ => m1⟩, m2⟩
  unfold v_law_is_divisor q_law_is_divisor v_law_is_divisor_0 q_law_is_divisor_0 v_law_is_divisor_2 q_law_is_divisor_2
  rw [e1q]
  exact ⟨⟨fun _ => v1, fun _ => ⟨v2, r3.1⟩⟩, r3.2⟩
theorem monic_ok {f : Po} {p : List Int} {d : Int} (hp : LS p 6 11) (sf : PoS f 6 11) (d0 : d ≠ 0) (ef : lv p = ci d * pv f) : v_law_trimmed p ∧ ((decide (((q_law_trimmed p).length : Int) > (0 : Int))) = true → inR (q_law_trimmed p) (-(1 : Int))) ∧ v_monic f ∧
    ∀ lead : Int, lead = (if decide (((q_law_trimmed p).length : Int) > (0 : Int)) = true then gt (q_law_trimmed p) (-(1 : Int)) else 1) → v_law_poly_is (q_monic f) p lead ∧ q_law_poly_is (q_monic f) p lead = true := by
  obtain ⟨wp, tp⟩ := ltrim_spec p
  have tr := trim_tr p
  rw [tp]
  by_cases z : f.coefs = []
  · obtain ⟨vm, em⟩ := monic_nil z
    have pz : lv p = 0 := by rw [ef, pv_nil z]; grind
    have tz : trim p = [] := Classical.byContradiction fun w => (tr.dg w).ne (by rw [trim_lv, pz])
    rw [tz, em]
    refine ⟨wp, fun w => absurd (of_decide_eq_true w) (by decide), vm, fun lead hl => ?_⟩
    have : lead = 1 := hl
    subst this
    exact lawPolyIs_r sf hp (b := 11) (c := 11) (Pd.one_sm (by decide)) (by decide) (by decide) (by decide) (by decide) (by decide) (by rw [pz, pv_nil z]; grind)
  · obtain ⟨vm, sm, em⟩ := monic_spec sf z (by decide) (by decide)
    have df := pv_ne sf z
    have cd0 : ci d ≠ 0 := fun h => by
      have := congrArg (fun f => f.cf 0) h
      rw [Ps.zero_cf] at this
      exact ic_ne d0 this
    have pne : lv p ≠ 0 := by
      rw [ef]
      exact mul_ne (Pl.c _) sf.pl cd0 df.ne
    have tz : trim p ≠ [] := fun w => pne (by rw [← trim_lv, w]; exact lv_nil)
    have l0 : 0 < (trim p).length := Pd.len_ne.mp tz
    have dt := tr.dg tz
    rw [trim_lv] at dt
    have dd : Dg (f.coefs.length - 1) (lv p) := by
      rw [ef]
      have c0 : Dg 0 (ci d) := ⟨Ps.Bd.c _, ic_ne d0⟩
      have := c0.mul df
      rw [Nat.zero_add] at this
      exact this
    have el := dt.uniq dd
    refine ⟨wp, fun _ => inR_neg l0, vm, fun lead hl => ?_⟩
    rw [if_pos (decide_eq_true (by omega)), gt_last l0, el] at hl
    have hl2 : (lead : Rat) = (lv p).cf (f.coefs.length - 1) := by rw [hl, co_trim, lv_cf]
    have hl3 : (lead : Rat) = (d : Rat) * (pv f).cf (f.coefs.length - 1) := by rw [hl2, ef]; exact Ps.c_mul ..
    have ln0 : lead ≠ 0 := fun w => dd.2 (by rw [← hl2, w]; rfl)
    have sl : Sm lead 11 := by rw [hl, co_trim]; exact hp.c _
    refine lawPolyIs_r sm hp sl ln0 (by decide) (by decide) (by decide) (by decide) ?_
    rw [em, ef]
    have k := Rat.mul_inv_cancel _ df.2
    show Ps.c (d : Rat) * pv f = Ps.c (lead : Rat) * (Ps.c ((pv f).cf (f.coefs.length - 1))⁻¹ * pv f)
    have : Ps.c (lead : Rat) * (Ps.c ((pv f).cf (f.coefs.length - 1))⁻¹ * pv f) = (Ps.c (lead : Rat) * Ps.c ((pv f).cf (f.coefs.length - 1))⁻¹) * pv f := by grind
    rw [this, ← Ps.c_mulc, hl3]
    have : (d : Rat) * (pv f).cf (f.coefs.length - 1) * ((pv f).cf (f.coefs.length - 1))⁻¹ = d := by
      generalize (pv f).cf (f.coefs.length - 1) = x at *
      grind
    rw [this]
theorem main_ok {p q : List Int} {d e : Int} (hp : LS p 6 11) (hq : LS q 6 11) (sd : Sm d 11) (se : Sm e 11) (d0 : d ≠ 0) (e0 : e ≠ 0) : v_law_14 p q d e ∧ q_law_14 p q d e = true := by
  obtain ⟨v1, s1, k1⟩ := hp.po d0 (by decide) sd
  obtain ⟨v2, s2, k2⟩ := hq.po e0 (by decide) se
  obtain ⟨v0, s0, k0⟩ := empty_po
  have nl : LS ([] : List Int) 6 11 := (LS.nil (b := 11) (by decide)).up (by decide) (Nat.le_refl _)
  unfold v_law_14 q_law_14 v_law_15 q_law_15
  generalize q_Poly_init p d = f at *
  generalize q_Poly_init q e = g at *
  have s0' : PoS (q_Poly_init ([] : List Int) 1) 6 11 := s0.up (by decide) (by decide)
  -- the pair
  obtain ⟨a1, a2, a3⟩ := cdstep s1 s2 (by decide +kernel) (by decide +kernel)
  have b551 : 2 * Eb 6 11 + 1 ≤ 600 := by decide +kernel
  obtain ⟨i1, i2⟩ := divisor_ok a2 (by omega) hp hq (gcd_both d0 e0 k1 k2 a3)
  -- [second, first]
  obtain ⟨c1, c2, c3⟩ := cdstep s0' s2 (by decide +kernel) (by decide +kernel)
  rw [k0] at c3
  have up : ∀ {x : Po} {b : Nat}, PoS x 6 b → b ≤ 600 → PoS x 6 600 := fun h l => h.up (Nat.le_refl _) l
  obtain ⟨d1, d2, d3⟩ := cdstep (up c2.s b551) (up s1 (by decide)) (by decide +kernel) (by decide +kernel)
  have b600 : 2 * Eb 6 600 + 1 ≤ 16000 := by decide +kernel
  have ez : lv ([] : List Int) = 0 := lv_nil
  obtain ⟨j1, j2⟩ := divisor_ok d2 (by omega) hp hq (gcd_both d0 e0 k1 k2 (gcd_two c3 d3))
  -- [first]
  obtain ⟨f1, f2, f3⟩ := cdstep s0' s1 (by decide +kernel) (by decide +kernel)
  rw [k0] at f3
  obtain ⟨l1, l2⟩ := divisor_ok (q := []) f2 (by omega) hp nl (by rw [ez]; exact gcd_l d0 k1 f3.symm)
  -- []
  have m0 : MD (q_Poly_init ([] : List Int) 1) 11 := ⟨s0', fun w => by
    have : (q_Poly_init ([] : List Int) 1).coefs = [] := (pv_zero_iff s0).mp k0
    exact absurd this w⟩
  obtain ⟨n1, n2⟩ := divisor_ok m0 (by decide) nl nl (by rw [ez, k0]; exact Gcd.zero 0)
  -- [0, first, second, first]
  obtain ⟨r1, r2, r3⟩ := cdstep s0' s0' (by decide +kernel) (by decide +kernel)
  rw [k0] at r3
  have r2' : PoS (q_common_divisor (q_Poly_init ([] : List Int) 1) (q_Poly_init ([] : List Int) 1)) 6 11 := by
    obtain ⟨-, -, z, -, B, sB⟩ := cd_spec s0' s0' (by decide) (by decide +kernel) (by decide +kernel)
    have : (q_Poly_init ([] : List Int) 1).coefs = [] := (pv_zero_iff s0).mp k0
    exact nil_po sB (z this this) (by decide)
  obtain ⟨t1, t2, t3⟩ := cdstep r2' s1 (by decide +kernel) (by decide +kernel)
  obtain ⟨u1, u2, u3⟩ := cdstep (up t2.s b551) (up s2 (by decide)) (by decide +kernel) (by decide +kernel)
  obtain ⟨w1, w2, w3⟩ := cdstep (c := 16000) (u2.s.up (Nat.le_refl _) b600) (s1.up (Nat.le_refl _) (by decide)) (by decide +kernel) (by decide +kernel)
  have b16 : 2 * Eb 6 16000 + 1 ≤ 1000000 := by decide +kernel
  obtain ⟨x1, x2⟩ := divisor_ok w2 b16 hp hq (gcd_both d0 e0 k1 k2 (gcd_row r3 t3 u3 w3))
  have ee : eqS q_Poly_eq [q_Poly_init ([] : List Int) 1, f, g, f] [q_Poly_init ([] : List Int) 1, f, g, f] = true := eqS_self (fun x => by
    show (true && (decide (x.coefs = x.coefs) && decide (x.den = x.den))) = true
    rw [decide_eq_true rfl, decide_eq_true rfl]; rfl) _
  -- monic
  obtain ⟨y1, y2, y3, y4⟩ := monic_ok hp s1 d0 k1
  obtain ⟨y5, y6⟩ := y4 _ rfl
  obtain ⟨o1, o2⟩ := lawPolyIs_r s1 hp sd d0 (by decide) (by decide) (by decide) (by decide) k1
  obtain ⟨o3, o4⟩ := lawPolyIs_r s2 hq se e0 (by decide) (by decide) (by decide) (by decide) k2
  have e1q : q_common_divisor_of [g, f] = q_common_divisor (q_common_divisor (q_Poly_init ([] : List Int) 1) g) f := rfl
  have e2q : q_common_divisor_of [f] = q_common_divisor (q_Poly_init ([] : List Int) 1) f := rfl
  have e3q : q_common_divisor_of ([] : List Po) = q_Poly_init ([] : List Int) 1 := rfl
  have e4q : q_common_divisor_of [q_Poly_init ([] : List Int) 1, f, g, f] = q_common_divisor (q_common_divisor (q_common_divisor (q_common_divisor (q_Poly_init ([] : List Int) 1) (q_Poly_init ([] : List Int) 1)) f) g) f := rfl
  have r26 : v_law_26 p q d e f g ∧ q_law_26 p q d e f g = true := by
    unfold v_law_26 q_law_26 v_law_27 q_law_27 v_law_30 q_law_30 v_law_32 q_law_32 q_law_29 v_law_28 q_law_28
    rw [y6, o2, o4]
    exact ⟨⟨y1, fun w => ⟨y1, y2 w⟩, y3, y5, fun _ => ⟨o1, fun _ => o3⟩⟩, rfl⟩
  unfold v_law_16 q_law_16 v_law_18 q_law_18 v_law_20 q_law_20 v_law_22 q_law_22 v_law_23 q_law_23 v_law_24 q_law_24
  rw [e1q, e2q, e3q, e4q, i2, j2, l2, n2, x2, ee]
  exact ⟨⟨v1, v2, a1, i1, fun _ => ⟨⟨v0, c1, d1, trivial⟩, j1, fun _ => ⟨⟨v0, f1, trivial⟩, l1, fun _ => ⟨⟨v0, trivial⟩, n1⟩, fun _ => ⟨v0, ⟨v0, r1, t1, u1, w1, trivial⟩, x1, fun _ => v0, fun _ => r26.1⟩⟩⟩⟩, r26.2⟩
theorem law_ok {ns : List Int} (hl : ns.length ≤ 63) (hb : ∀ z ∈ ns, Builtin.Int.intBits z ≤ 1048576) : v_law ns ∧ q_law ns = true := by
  obtain ⟨v0, hL⟩ := numbers_spec hl hb 14 (by omega)
  have v0' : v_law_numbers ns (14 : Int) := v0
  have hL' : Drawn (q_law_numbers ns (14 : Int)) 14 := hL
  show (v_law_numbers ns (14 : Int) ∧ v_law_1 (q_law_numbers ns (14 : Int))) ∧ q_law_1 (q_law_numbers ns (14 : Int)) = true
  generalize q_law_numbers ns (14 : Int) = L at hL'
  clear v0 hL
  obtain ⟨i0, -⟩ := hL'.at (i := 0) (by omega) (by omega)
  obtain ⟨i1, -⟩ := hL'.at (i := 1) (by omega) (by omega)
  obtain ⟨i2, -⟩ := hL'.at (i := 2) (by omega) (by omega)
  obtain ⟨i3, -⟩ := hL'.at (i := 3) (by omega) (by omega)
  obtain ⟨i4, -⟩ := hL'.at (i := 4) (by omega) (by omega)
  have f0 := fmod_pos (i := gt L 0) (j := 4) (by decide)
  have f1 := fmod_pos (i := gt L 1) (j := 4) (by decide)
  have f2 := fmod_pos (i := gt L 2) (j := 4) (by decide)
  have f4 := fmod_pos (i := gt L 4) (j := 5) (by decide)
  have f5 := fmod_pos (i := Int.fdiv (gt L 4) 5) (j := 5) (by decide)
  obtain ⟨a, ea⟩ := Int.eq_ofNat_of_zero_le f0.1
  obtain ⟨b, eb⟩ := Int.eq_ofNat_of_zero_le f1.1
  obtain ⟨c, ec⟩ := Int.eq_ofNat_of_zero_le f2.1
  obtain ⟨vg, lg⟩ := coefs_spec hL' (st := 5) (size := a) (by omega) (by decide)
  obtain ⟨va, la⟩ := coefs_spec hL' (st := 8) (size := b) (by omega) (by decide)
  obtain ⟨vb, lb⟩ := coefs_spec hL' (st := 11) (size := c) (by omega) (by decide)
  unfold v_law_1 q_law_1 v_law_2 q_law_2 v_law_3 q_law_3 v_law_4 q_law_4 v_law_5 q_law_5
  rw [ea, eb, ec]
  have E5 : ((5 : Nat) : Int) = 5 := rfl
  have E8 : ((8 : Nat) : Int) = 8 := rfl
  have E11 : ((11 : Nat) : Int) = 11 := rfl
  rw [E5] at vg lg
  rw [E8] at va la
  rw [E11] at vb lb
  generalize q_law_coefs L 5 (a : Int) = xg at *
  generalize q_law_coefs L 8 (b : Int) = xa at *
  generalize q_law_coefs L 11 (c : Int) = xb at *
  obtain ⟨vp, lp, -⟩ := product_spec lg la (by decide) (by decide) (by omega) (by omega)
  obtain ⟨vq, lq, -⟩ := product_spec lg lb (by decide) (by decide) (by omega) (by omega)
  have nl : LS ([] : List Int) 6 11 := (LS.nil (b := 11) (by decide)).up (by decide) (Nat.le_refl _)
  have lp' : LS (q_law_8 L (q_law_product xg xa) (q_law_product xg xb)) 6 11 := by
    unfold q_law_8 q_law_7
    split
    · exact nl
    · exact lp.up (by omega) (by omega)
  have lq' : LS (q_law_11 L (q_law_8 L (q_law_product xg xa) (q_law_product xg xb)) (q_law_product xg xb)) 6 11 := by
    unfold q_law_11 q_law_10
    split
    · exact nl
    · exact lq.up (by omega) (by omega)
  obtain ⟨m1, m2⟩ := main_ok (d := Int.fmod (gt L 4) 5 + 1) (e := Int.fmod (Int.fdiv (gt L 4) 5) 5 + 1) lp' lq' ((Sm.nat (n := 4) (by omega) (by omega) (by decide)).up (by decide)) ((Sm.nat (n := 4) (by omega) (by omega) (by decide)).up (by decide)) (by omega) (by omega)
  unfold v_law_6 q_law_6 v_law_9 q_law_9 v_law_12 q_law_12 v_law_13 q_law_13
  exact ⟨⟨v0', i0, vg, i1, va, i2, vb, vp, vq, i3, fun _ => i3, i3, fun _ => i3, i4, i4, m1⟩, m2⟩
theorem law_true (ns : List Int) (hl : ns.length ≤ 63) (hb : ∀ z ∈ ns, Builtin.Int.intBits z ≤ 1048576) : f_law [.lst (ns.map Dt.int)] = some (.ok (.fro (.bl true))) := by
  obtain ⟨v, e⟩ := law_ok hl hb
  have := r_law ns v
  rw [e] at this
  exact this
end G
open PySem PySem.W PySem.Calls PyProof.Rows L2 Pd
theorem PySem.Challenge.cw_certsums_k11_common_divisor_holds : PySem.Challenge.rw_certsums_k11_common_divisor.Holds := by
  w_on; o_law
  refine HandSHeadRun.head_imp (r := G.Rw) (q := view G.Rw.prog [0, 30]) (H := G.hk) (ob := G.ob) (M := 20000) (loose := ["_wall", "__name__", "SummationError", "DivisionByZero", "ZeroPolynomial", "Fraction", "trimmed", "content", "Poly", "divide", "monic", "primitive", "common_divisor", "common_divisor_of", "_law_numbers", "_law_is_integer", "_law_divisor", "_law_poly_is", "_law_coefs", "_law_product", "_law_trimmed", "_law_rest", "_law_reduced", "_law_degree", "_law_is_divisor"]) (d := HandSHeadRun.topDef G.Rw.prog 30) (kwd := []) G.ob_eq
    G.run (by kernel_rfl) (by kernel_rfl) (by kernel_rfl) (by rfl) (by first | assumption | decide +kernel) (by decide +kernel) ⟨rfl, rfl, rfl, rfl, rfl, by decide +kernel⟩ ?hw ?hc
  case hw => w_witness2
  case hc =>
    refine Pd.walk_end (l := PySem.Challenge.rw_certsums_k11_common_divisor) (m := 63) (k := 40) (x := "_law_script") rfl (by decide) (by kernel_rfl) ⟨rfl, by decide, by decide⟩ ?_
    intro w mg fa h Y Gm hmg0
    obtain ⟨K, KX, c⟩ := Y
    have hmg : mg ("law" : PySem.Str) = some (.ref fa) := by
      have e : (HandSHeadRun.topDef G.Rw.prog 30).name = ("law" : PySem.Str) := by kernel_rfl
      rw [← e]
      exact hmg0
    obtain ⟨fd, F, hb⟩ := Pd.law_of KX Gm c hmg 25 38 (d := G.h_law) rfl rfl rfl rfl (p := "_law_script") (fun _ _ _ _ _ _ us hl => match us, hl with | [_], _ => rfl)
    exact ⟨K, G.tab K, fd, G.f_law, KX, hb, fun ns hl hbits => G.law_true ns hl hbits, fun base KB GB => G.ok_law ⟨by kernel_rfl, _, KB, GB, c⟩ F⟩
