import PyProof.Rows.All
import Wide.All
import OpenK.AllK
import Wide.FinOn
import HandS.ForMost
import HandS.HeadHook1
import HandS.ExcCtx
import HandS.ExcInit
import HandS.Hot
import HandS.HotCalls
import HandS.ForExc
import HandS.CallSlots
import HandS.Deep
import KE.IntBitsLaws
import HandS.ExcField
import HandS.ExcIs
import HandS.TryOnly
import HandS.IsInst
import HandS.Defaults
import KE.KExcIs
import HandS.List
import HandS.Text
import HandS.StrMore
import HandS.Small
import HandS.WideBits
import HandS.Conv
import HandS.SortInts
import HandS.RaiseMore
import HandS.Comp
import HandS.Iter
import HandS.Rev
import HandS.RevTup
import HandS.TupLe
import HandS.ExcValue
import KE.DataFind
import HandS.Replace
import HandS.ReplaceLit
import PySem.Challenge.RW_fleetpath_k14_clock_read
import KE.KStateDown
import HandS.Words
import HandS.WordsExc
import HandS.Head0
import HandS.Head1
import HandS.Head2
import HandS.HeadEnd
import HandS.HeadHook4
import KE.IntTextLaws
set_option Elab.async false
set_option linter.all false
set_option maxRecDepth 100000
set_option maxHeartbeats 8000000
/-! Data trees: a value semantics over the hand layer. Part 1: trees, what they stand for in the abstract heap. -/
namespace DT
open PySem L2

/-! ### footprints: sets of addresses -/
abbrev Fp := Addr → Prop
def fe : Fp := fun _ => False
def fo (p : Addr) : Fp := fun q => q = p
def fu (A B : Fp) : Fp := fun q => A q ∨ B q
def Dj (A B : Fp) : Prop := ∀ q, A q → B q → False
theorem Dj.symm {A B : Fp} (h : Dj A B) : Dj B A := fun q a b => h q b a
theorem fu_e {A : Fp} : fu A fe = A := funext fun q => propext ⟨fun h => h.elim id fun z => z.elim, .inl⟩
theorem e_fu {A : Fp} : fu fe A = A := funext fun q => propext ⟨fun h => h.elim (fun z => z.elim) id, .inr⟩
theorem fu_comm {A B : Fp} : fu A B = fu B A := funext fun q => propext ⟨Or.symm, Or.symm⟩
theorem fu_assoc {A B C : Fp} : fu (fu A B) C = fu A (fu B C) := funext fun q => propext or_assoc
theorem fu_left {A B C : Fp} : fu A (fu B C) = fu B (fu A C) := by rw [← fu_assoc, fu_comm (A := A), fu_assoc]
theorem dj_e {A : Fp} : Dj A fe := fun _ _ h => h
theorem e_dj {A : Fp} : Dj fe A := fun _ h _ => h

/-! ### trees -/
/-- a flat value -/
inductive Fl where
  | non | bl (b : Bool) | int (i : Int) | str (x : Str)
  deriving DecidableEq
def Fl.v : Fl → V
  | .non => .non
  | .bl b => .bl b
  | .int i => .int i
  | .str x => .str x
theorem Fl.v_inj {a b : Fl} (h : a.v = b.v) : a = b := by
  cases a <;> cases b <;> simp [Fl.v] at h ⊢ <;> exact h
/-- what a node is: a list, a list that is only read (the script), a tuple, a dict by its keys, an instance by its class and fields, an exception likewise -/
inductive Kd where
  | lst | scr | tup | dic (ks : List Key) | ins (c : String) (fs : List Str) | exc (c : String) (fs : List Str)
  deriving DecidableEq
/-- plain data: frozen -/
inductive D where
  | a (v : Fl)
  | n (k : Kd) (xs : List D)
/-- owned, to be changed; or locked: looked at -/
inductive Md where
  | ow | lk
  deriving DecidableEq
inductive T where
  | f (d : D)
  | n (m : Md) (k : Kd) (xs : List T)

mutual
/-- the data of a tree -/
def era : T → D
  | .f d => d
  | .n _ k ts => .n k (eras ts)
def eras : List T → List D
  | [] => []
  | t :: ts => era t :: eras ts
end
mutual
/-- a tree as it is looked at -/
def lock : T → T
  | .f d => .f d
  | .n _ k ts => .n .lk k (locks ts)
def locks : List T → List T
  | [] => []
  | t :: ts => lock t :: locks ts
end
mutual
/-- no part of it is a view -/
def noLk : T → Bool
  | .f _ => true
  | .n .ow _ ts => noLks ts
  | .n .lk _ _ => false
def noLks : List T → Bool
  | [] => true
  | t :: ts => noLk t && noLks ts
end
theorem eras_map : ∀ ts : List T, eras ts = ts.map era
  | [] => rfl
  | t :: ts => congrArg (era t :: ·) (eras_map ts)
theorem locks_map : ∀ ts : List T, locks ts = ts.map lock
  | [] => rfl
  | t :: ts => congrArg (lock t :: ·) (locks_map ts)
theorem eras_f : ∀ ds : List D, eras (ds.map T.f) = ds
  | [] => rfl
  | d :: ds => congrArg (d :: ·) (eras_f ds)
theorem locks_f : ∀ ds : List D, locks (ds.map T.f) = ds.map T.f
  | [] => rfl
  | d :: ds => congrArg (T.f d :: ·) (locks_f ds)
theorem noLks_f : ∀ ds : List D, noLks (ds.map T.f) = true
  | [] => rfl
  | d :: ds => by show (true && noLks (ds.map T.f)) = true; rw [noLks_f ds]; rfl

/-! ### objects of the abstract heap -/
/-- what the top has written, and the objects that are pinned (a caught exception) -/
structure Gx where
  K : PySem.W.Frag
  pn : List (Addr × Obj)
/-- a class of the module by its name -/
def cA (K : PySem.W.Frag) (c : String) : Addr := He.ga K (Str.ofString c)
/-- at p an object of that kind may be read, its parts vs -/
def Ob (K : Gx) (F : Hp) (p : Addr) : Kd → List V → Prop
  | .lst, vs => F p = some (.lst vs)
  | .scr, vs => SqL K.K F p vs
  | .tup, vs => SqT K.K F p vs
  | .dic ks, vs => ks.length = vs.length ∧ Rd F p (.dK (ks.zip vs))
  | .ins c fs, vs => fs.length = vs.length ∧ ∃ dx, F p = some (.ins (cA K.K c) dx (fs.zip vs))
  | .exc c fs, vs => fs.length = vs.length ∧ ∃ (oe : Obj) (dd : Addr), ((p, oe) ∈ K.pn ∨ F p = some (.ext fun h => h.get? p = some oe)) ∧ oe.cls = .ref (cA K.K c) ∧ oe.dict = some dd ∧ (∃ ws, oe.data = .fields ws) ∧ F dd = some (.xd (fs.zip vs))
/-- it stands there, unlocked -/
def ObX (K : Gx) (H : Hp) (p : Addr) : Kd → List V → Prop
  | .lst, vs => H p = some (.lst vs)
  | .scr, _ => False
  | .tup, vs => H p = some (.tup vs)
  | .dic ks, vs => ks.length = vs.length ∧ H p = some (.dK (ks.zip vs))
  | .ins c fs, vs => fs.length = vs.length ∧ ∃ dx, H p = some (.ins (cA K.K c) dx (fs.zip vs))
  | .exc _ _, _ => False
/-- F' tells all that F tells -/
structure Le (F F' : Hp) : Prop where
  rd : ∀ a u, Rd F a u → Rd F' a u
  lst : ∀ a xs, F a = some (.lst xs) → F' a = some (.lst xs)
  ins : ∀ a C dx fs, F a = some (.ins C dx fs) → F' a = some (.ins C dx fs)
  ext : ∀ a φ, F a = some (.ext φ) → F' a = some (.ext φ)
  xd : ∀ a fs, F a = some (.xd fs) → F' a = some (.xd fs)
theorem Le.refl (F : Hp) : Le F F := ⟨fun _ _ h => h, fun _ _ h => h, fun _ _ _ _ h => h, fun _ _ h => h, fun _ _ h => h⟩
theorem Le.trans {F G H : Hp} (a : Le F G) (b : Le G H) : Le F H :=
  ⟨fun x u h => b.rd x u (a.rd x u h), fun x u h => b.lst x u (a.lst x u h), fun x c d f h => b.ins x c d f (a.ins x c d f h), fun x p h => b.ext x p (a.ext x p h), fun x f h => b.xd x f (a.xd x f h)⟩
theorem Le.of {F F' : Hp} (h : Same F F') : Le F F' :=
  ⟨fun a u r => r.elim (fun r => .inl (h a u r)) fun ⟨o, r⟩ => .inr ⟨o, h a _ r⟩, fun a _ r => h a _ r, fun a _ _ _ r => h a _ r, fun a _ r => h a _ r, fun a _ r => h a _ r⟩
variable {K : Gx}
theorem Ob.mono {F F' : Hp} {p : Addr} {k : Kd} {vs : List V} (e : Le F F') (h : Ob K F p k vs) : Ob K F' p k vs := by
  cases k with
  | lst => exact e.lst _ _ h
  | scr => exact h.elim (fun h => .inl (e.rd _ _ h)) .inr
  | tup => exact h.elim (fun h => .inl (e.rd _ _ h)) .inr
  | dic ks => exact ⟨h.1, e.rd _ _ h.2⟩
  | ins c fs => obtain ⟨l, dx, h⟩ := h; exact ⟨l, dx, e.ins _ _ _ _ h⟩
  | exc c fs => obtain ⟨l, oe, dd, h1, h2, h3, h4, h5⟩ := h; exact ⟨l, oe, dd, h1.imp_right (e.ext _ _), h2, h3, h4, e.xd _ _ h5⟩
theorem ObX.at {H H' : Hp} {p : Addr} {k : Kd} {vs : List V} (e : H' p = H p) (h : ObX K H p k vs) : ObX K H' p k vs := by
  cases k with
  | lst => exact e.trans h
  | scr => exact h.elim
  | tup => exact e.trans h
  | dic ks => exact ⟨h.1, e.trans h.2⟩
  | ins c fs => obtain ⟨l, dx, h⟩ := h; exact ⟨l, dx, e.trans h⟩
  | exc c fs => exact h.elim
theorem ObX.ob {H F : Hp} {p : Addr} {k : Kd} {vs : List V} (h : ObX K H p k vs) (e : F p = H p) : Ob K F p k vs := by
  cases k with
  | lst => exact e.trans h
  | scr => exact h.elim
  | tup => exact .inl (.inl (e.trans h))
  | dic ks => exact ⟨h.1, .inl (e.trans h.2)⟩
  | ins c fs => obtain ⟨l, dx, h⟩ := h; exact ⟨l, dx, e.trans h⟩
  | exc c fs => exact h.elim
theorem ObX.dom {H : Hp} {p : Addr} {k : Kd} {vs : List V} (h : ObX K H p k vs) : H p ≠ none := by
  cases k with
  | lst => exact fun z => by rw [show H p = some (.lst vs) from h] at z; cases z
  | scr => exact h.elim
  | tup => exact fun z => by rw [show H p = some (.tup vs) from h] at z; cases z
  | dic ks => exact fun z => by rw [h.2] at z; cases z
  | ins c fs => obtain ⟨l, dx, h⟩ := h; exact fun z => by rw [h] at z; cases z
  | exc c fs => exact h.elim

/-! ### what a tree stands for -/
mutual
def RepD (K : Gx) (F : Hp) : D → V → Prop
  | .a x, v => v = x.v
  | .n k ds, v => ∃ p vs, v = .ref p ∧ Ob K F p k vs ∧ RepDs K F ds vs
def RepDs (K : Gx) (F : Hp) : List D → List V → Prop
  | [], vs => vs = []
  | d :: ds, vs => ∃ v ws, vs = v :: ws ∧ RepD K F d v ∧ RepDs K F ds ws
end
mutual
def Rep (K : Gx) (F L H : Hp) : T → V → Fp → Prop
  | .f d, v, A => A = fe ∧ RepD K F d v
  | .n .ow k ts, v, A => ∃ p vs B, v = .ref p ∧ ObX K H p k vs ∧ ¬ B p ∧ A = fu (fo p) B ∧ Reps K F L H ts vs B
  | .n .lk k ts, v, A => ∃ p vs, v = .ref p ∧ A = fe ∧ Ob K L p k vs ∧ Reps K F L H ts vs fe
def Reps (K : Gx) (F L H : Hp) : List T → List V → Fp → Prop
  | [], vs, A => vs = [] ∧ A = fe
  | t :: ts, vs, A => ∃ v ws A1 A2, vs = v :: ws ∧ A = fu A1 A2 ∧ Dj A1 A2 ∧ Rep K F L H t v A1 ∧ Reps K F L H ts ws A2
end
mutual
theorem RepD.mono {F F' : Hp} (e : Le F F') : ∀ (d : D) (v : V), RepD K F d v → RepD K F' d v
  | .a x, v, h => by unfold RepD at h ⊢; exact h
  | .n k ds, v, h => by
    unfold RepD at h ⊢
    obtain ⟨p, vs, a, b, c⟩ := h
    exact ⟨p, vs, a, b.mono e, RepDs.mono e ds vs c⟩
theorem RepDs.mono {F F' : Hp} (e : Le F F') : ∀ (ds : List D) (vs : List V), RepDs K F ds vs → RepDs K F' ds vs
  | [], vs, h => by unfold RepDs at h ⊢; exact h
  | d :: ds, vs, h => by
    unfold RepDs at h ⊢
    obtain ⟨v, ws, a, b, c⟩ := h
    exact ⟨v, ws, a, RepD.mono e d v b, RepDs.mono e ds ws c⟩
end
mutual
theorem Rep.keep {F F' L L' H H' : Hp} (eF : Le F F') (eL : Le L L') : ∀ (t : T) (v : V) (A : Fp), (∀ p, A p → H' p = H p) → Rep K F L H t v A → Rep K F' L' H' t v A
  | .f d, v, A, eH, h => by
    unfold Rep at h ⊢
    exact ⟨h.1, RepD.mono eF d v h.2⟩
  | .n .ow k ts, v, A, eH, h => by
    unfold Rep at h ⊢
    obtain ⟨p, vs, B, a, b, c, d, e⟩ := h
    subst d
    exact ⟨p, vs, B, a, b.at (eH p (.inl rfl)), c, rfl, Reps.keep eF eL ts vs B (fun q z => eH q (.inr z)) e⟩
  | .n .lk k ts, v, A, eH, h => by
    unfold Rep at h ⊢
    obtain ⟨p, vs, a, b, c, d⟩ := h
    exact ⟨p, vs, a, b, c.mono eL, Reps.keep eF eL ts vs fe (fun q z => z.elim) d⟩
theorem Reps.keep {F F' L L' H H' : Hp} (eF : Le F F') (eL : Le L L') : ∀ (ts : List T) (vs : List V) (A : Fp), (∀ p, A p → H' p = H p) → Reps K F L H ts vs A → Reps K F' L' H' ts vs A
  | [], vs, A, eH, h => by unfold Reps at h ⊢; exact h
  | t :: ts, vs, A, eH, h => by
    unfold Reps at h ⊢
    obtain ⟨v, ws, A1, A2, a, b, c, d, e⟩ := h
    subst b
    exact ⟨v, ws, A1, A2, a, rfl, c, Rep.keep eF eL t v A1 (fun q z => eH q (.inl z)) d, Reps.keep eF eL ts ws A2 (fun q z => eH q (.inr z)) e⟩
end
mutual
/-- where nothing is a view, L does not matter -/
theorem Rep.keepN {F F' L L' H H' : Hp} (eF : Le F F') : ∀ (t : T) (v : V) (A : Fp), noLk t = true → (∀ p, A p → H' p = H p) → Rep K F L H t v A → Rep K F' L' H' t v A
  | .f d, v, A, _, eH, h => by
    unfold Rep at h ⊢
    exact ⟨h.1, RepD.mono eF d v h.2⟩
  | .n .ow k ts, v, A, n, eH, h => by
    unfold Rep at h ⊢
    unfold noLk at n
    obtain ⟨p, vs, B, a, b, c, d, e⟩ := h
    subst d
    exact ⟨p, vs, B, a, b.at (eH p (.inl rfl)), c, rfl, Reps.keepN eF ts vs B n (fun q z => eH q (.inr z)) e⟩
  | .n .lk k ts, v, A, n, eH, h => by
    unfold noLk at n
    cases n
theorem Reps.keepN {F F' L L' H H' : Hp} (eF : Le F F') : ∀ (ts : List T) (vs : List V) (A : Fp), noLks ts = true → (∀ p, A p → H' p = H p) → Reps K F L H ts vs A → Reps K F' L' H' ts vs A
  | [], vs, A, _, eH, h => by unfold Reps at h ⊢; exact h
  | t :: ts, vs, A, n, eH, h => by
    unfold Reps at h ⊢
    unfold noLks at n
    obtain ⟨n1, n2⟩ := Bool.and_eq_true_iff.mp n
    obtain ⟨v, ws, A1, A2, a, b, c, d, e⟩ := h
    subst b
    exact ⟨v, ws, A1, A2, a, rfl, c, Rep.keepN eF t v A1 n1 (fun q z => eH q (.inl z)) d, Reps.keepN eF ts ws A2 n2 (fun q z => eH q (.inr z)) e⟩
end
mutual
theorem Rep.dom {F L H : Hp} : ∀ (t : T) (v : V) (A : Fp), Rep K F L H t v A → ∀ p, A p → H p ≠ none
  | .f d, v, A, h => by
    unfold Rep at h
    obtain ⟨a, _⟩ := h
    subst a
    exact fun p z => z.elim
  | .n .ow k ts, v, A, h => by
    unfold Rep at h
    obtain ⟨p, vs, B, a, b, c, d, e⟩ := h
    subst d
    rintro q (z | z)
    · obtain rfl : q = p := z
      exact b.dom
    · exact Reps.dom ts vs B e q z
  | .n .lk k ts, v, A, h => by
    unfold Rep at h
    obtain ⟨p, vs, a, b, c, d⟩ := h
    subst b
    exact fun p z => z.elim
theorem Reps.dom {F L H : Hp} : ∀ (ts : List T) (vs : List V) (A : Fp), Reps K F L H ts vs A → ∀ p, A p → H p ≠ none
  | [], vs, A, h => by
    unfold Reps at h
    obtain ⟨_, a⟩ := h
    subst a
    exact fun p z => z.elim
  | t :: ts, vs, A, h => by
    unfold Reps at h
    obtain ⟨v, ws, A1, A2, a, b, c, d, e⟩ := h
    subst b
    rintro q (z | z)
    · exact Rep.dom t v A1 d q z
    · exact Reps.dom ts ws A2 e q z
end
mutual
/-- frozen: F' holds what was owned -/
theorem Rep.freeze {F F' L H : Hp} (eF : Le F F') : ∀ (t : T) (v : V) (A : Fp), noLk t = true → (∀ p, A p → F' p = H p) → Rep K F L H t v A → RepD K F' (era t) v
  | .f d, v, A, _, eH, h => by
    unfold Rep at h
    unfold era
    exact RepD.mono eF d v h.2
  | .n .ow k ts, v, A, n, eH, h => by
    unfold Rep at h
    unfold noLk at n
    unfold era RepD
    obtain ⟨p, vs, B, a, b, c, d, e⟩ := h
    subst d
    exact ⟨p, vs, a, b.ob (eH p (.inl rfl)), Reps.freeze eF ts vs B n (fun q z => eH q (.inr z)) e⟩
  | .n .lk k ts, v, A, n, eH, h => by
    unfold noLk at n
    cases n
theorem Reps.freeze {F F' L H : Hp} (eF : Le F F') : ∀ (ts : List T) (vs : List V) (A : Fp), noLks ts = true → (∀ p, A p → F' p = H p) → Reps K F L H ts vs A → RepDs K F' (eras ts) vs
  | [], vs, A, _, eH, h => by
    unfold Reps at h
    unfold eras RepDs
    exact h.1
  | t :: ts, vs, A, n, eH, h => by
    unfold Reps at h
    unfold noLks at n
    unfold eras RepDs
    obtain ⟨n1, n2⟩ := Bool.and_eq_true_iff.mp n
    obtain ⟨v, ws, A1, A2, a, b, c, d, e⟩ := h
    subst b
    exact ⟨v, ws, a, Rep.freeze eF t v A1 n1 (fun q z => eH q (.inl z)) d, Reps.freeze eF ts ws A2 n2 (fun q z => eH q (.inr z)) e⟩
end
mutual
/-- looked at: L' holds what is owned -/
theorem Rep.lock {F L L' H : Hp} (eL : Le L L') : ∀ (t : T) (v : V) (A : Fp), (∀ p, A p → L' p = H p) → Rep K F L H t v A → Rep K F L' H (DT.lock t) v fe
  | .f d, v, A, eH, h => by
    unfold Rep at h
    unfold DT.lock Rep
    exact ⟨rfl, h.2⟩
  | .n .ow k ts, v, A, eH, h => by
    unfold Rep at h
    unfold DT.lock Rep
    obtain ⟨p, vs, B, a, b, c, d, e⟩ := h
    subst d
    exact ⟨p, vs, a, rfl, b.ob (eH p (.inl rfl)), Reps.locks eL ts vs B (fun q z => eH q (.inr z)) e⟩
  | .n .lk k ts, v, A, eH, h => by
    unfold Rep at h
    unfold DT.lock Rep
    obtain ⟨p, vs, a, b, c, d⟩ := h
    exact ⟨p, vs, a, rfl, c.mono eL, Reps.locks eL ts vs fe (fun q z => z.elim) d⟩
theorem Reps.locks {F L L' H : Hp} (eL : Le L L') : ∀ (ts : List T) (vs : List V) (A : Fp), (∀ p, A p → L' p = H p) → Reps K F L H ts vs A → Reps K F L' H (DT.locks ts) vs fe
  | [], vs, A, eH, h => by
    unfold Reps at h
    unfold DT.locks Reps
    exact ⟨h.1, rfl⟩
  | t :: ts, vs, A, eH, h => by
    unfold Reps at h
    unfold DT.locks Reps
    obtain ⟨v, ws, A1, A2, a, b, c, d, e⟩ := h
    subst b
    exact ⟨v, ws, fe, fe, a, fu_e.symm, e_dj, Rep.lock eL t v A1 (fun q z => eH q (.inl z)) d, Reps.locks eL ts ws A2 (fun q z => eH q (.inr z)) e⟩
end
/-- frozen parts as trees -/
theorem Reps.of_ds {F L H : Hp} : ∀ (ds : List D) (vs : List V), RepDs K F ds vs → Reps K F L H (ds.map T.f) vs fe
  | [], vs, h => by
    unfold RepDs at h
    show Reps K F L H [] vs fe
    unfold Reps
    exact ⟨h, rfl⟩
  | d :: ds, vs, h => by
    unfold RepDs at h
    obtain ⟨v, ws, a, b, c⟩ := h
    show Reps K F L H (T.f d :: ds.map T.f) vs fe
    unfold Reps
    exact ⟨v, ws, fe, fe, a, fu_e.symm, e_dj, by unfold Rep; exact ⟨rfl, b⟩, Reps.of_ds ds ws c⟩

/-! ### the parts of a tree -/
def kids : T → Option (Kd × List T)
  | .f (.a _) => none
  | .f (.n k ds) => some (k, ds.map T.f)
  | .n _ k ts => some (k, ts)
/-- its parts may be read in H -/
theorem Rep.kids {F L H : Hp} {t : T} {v : V} {A : Fp} {k : Kd} {ts : List T} (h : Rep K F L H t v A) (e : DT.kids t = some (k, ts)) (sF : Same F H) (sL : Same L H) :
    ∃ p vs B, v = .ref p ∧ Ob K H p k vs ∧ (∀ q, B q → A q) ∧ Reps K F L H ts vs B := by
  cases t with
  | f d =>
    cases d with
    | a x => cases e
    | n k' ds =>
      unfold DT.kids at e
      cases e
      unfold Rep RepD at h
      obtain ⟨_, p, vs, a, b, c⟩ := h
      exact ⟨p, vs, fe, a, b.mono (Le.of sF), fun q z => z.elim, Reps.of_ds ds vs c⟩
  | n m k' us =>
    unfold DT.kids at e
    cases e
    cases m with
    | ow =>
      unfold Rep at h
      obtain ⟨p, vs, B, a, b, c, d, e⟩ := h
      subst d
      exact ⟨p, vs, B, a, b.ob rfl, fun q z => .inr z, e⟩
    | lk =>
      unfold Rep at h
      obtain ⟨p, vs, a, b, c, d⟩ := h
      exact ⟨p, vs, fe, a, c.mono (Le.of sL), fun q z => z.elim, d⟩
theorem Reps.length {F L H : Hp} : ∀ {ts : List T} {vs : List V} {A : Fp}, Reps K F L H ts vs A → ts.length = vs.length
  | [], vs, A, h => by
    unfold Reps at h
    rw [h.1]
    rfl
  | t :: ts, vs, A, h => by
    unfold Reps at h
    obtain ⟨v, ws, A1, A2, a, b, c, d, e⟩ := h
    subst a
    show ts.length + 1 = ws.length + 1
    rw [Reps.length e]
theorem Reps.get {F L H : Hp} : ∀ {ts : List T} {vs : List V} {A : Fp} {i : Nat} {t : T}, Reps K F L H ts vs A → ts[i]? = some t → ∃ v B, vs[i]? = some v ∧ Rep K F L H t v B ∧ ∀ q, B q → A q
  | [], vs, A, i, t, h, e => by simp at e
  | u :: ts, vs, A, i, t, h, e => by
    unfold Reps at h
    obtain ⟨v, ws, A1, A2, a, b, c, d, e2⟩ := h
    subst a b
    cases i with
    | zero =>
      obtain rfl : u = t := by simpa using e
      exact ⟨v, A1, rfl, d, fun q z => .inl z⟩
    | succ i =>
      obtain ⟨w, B, h1, h2, h3⟩ := Reps.get e2 (show ts[i]? = some t by simpa using e)
      exact ⟨w, B, by simpa using h1, h2, fun q z => .inr (h3 q z)⟩
/-- a flat tree is its value -/
theorem Rep.flat {F L H : Hp} {x : Fl} {v : V} {A : Fp} (h : Rep K F L H (.f (.a x)) v A) : v = x.v ∧ A = fe := by
  unfold Rep RepD at h
  exact ⟨h.2, h.1⟩
theorem Rep.of_flat {F L H : Hp} {x : Fl} : Rep K F L H (.f (.a x)) x.v fe := by
  unfold Rep RepD
  exact ⟨rfl, rfl⟩
end DT
/-! Data trees, part 2: states, steps, judgements. -/
namespace DT
open PySem L2
variable {K : Gx}

/-! ### slots -/
abbrev En := List (Option T)
def Slot (K : Gx) (F L H : Hp) : Option V → Option T → Fp → Prop
  | _, none, A => A = fe
  | some v, some t, A => Rep K F L H t v A
  | none, some _, _ => False
def Slots (K : Gx) (F L H : Hp) : List (Option V) → En → Fp → Prop
  | [], [], A => A = fe
  | o :: σ, e :: en, A => ∃ A1 A2, A = fu A1 A2 ∧ Dj A1 A2 ∧ Slot K F L H o e A1 ∧ Slots K F L H σ en A2
  | _, _, _ => False
theorem Slot.keep {F F' L L' H H' : Hp} (eF : Le F F') (eL : Le L L') {o : Option V} {e : Option T} {A : Fp} (eH : ∀ p, A p → H' p = H p) (h : Slot K F L H o e A) : Slot K F' L' H' o e A := by
  cases e with
  | none => exact h
  | some t =>
    cases o with
    | none => exact h.elim
    | some v => exact Rep.keep eF eL t v A eH h
theorem Slots.keep {F F' L L' H H' : Hp} (eF : Le F F') (eL : Le L L') : ∀ {σ : List (Option V)} {en : En} {A : Fp}, (∀ p, A p → H' p = H p) → Slots K F L H σ en A → Slots K F' L' H' σ en A
  | [], [], A, eH, h => h
  | o :: σ, e :: en, A, eH, h => by
    obtain ⟨A1, A2, a, b, c, d⟩ := h
    subst a
    exact ⟨A1, A2, rfl, b, c.keep eF eL (fun p z => eH p (.inl z)), Slots.keep eF eL (fun p z => eH p (.inr z)) d⟩
  | [], _ :: _, A, eH, h => h.elim
  | _ :: _, [], A, eH, h => h.elim
theorem Slot.dom {F L H : Hp} {o : Option V} {e : Option T} {A : Fp} (h : Slot K F L H o e A) : ∀ p, A p → H p ≠ none := by
  cases e with
  | none =>
    obtain rfl : A = fe := h
    exact fun p z => z.elim
  | some t =>
    cases o with
    | none => exact h.elim
    | some v => exact Rep.dom t v A h
theorem Slots.dom {F L H : Hp} : ∀ {σ : List (Option V)} {en : En} {A : Fp}, Slots K F L H σ en A → ∀ p, A p → H p ≠ none
  | [], [], A, h => by
    obtain rfl : A = fe := h
    exact fun p z => z.elim
  | o :: σ, e :: en, A, h => by
    obtain ⟨A1, A2, a, b, c, d⟩ := h
    subst a
    rintro p (z | z)
    · exact c.dom p z
    · exact Slots.dom d p z
  | [], _ :: _, A, h => h.elim
  | _ :: _, [], A, h => h.elim
theorem Slots.len {F L H : Hp} : ∀ {σ : List (Option V)} {en : En} {A : Fp}, Slots K F L H σ en A → en.length = σ.length
  | [], [], A, h => rfl
  | o :: σ, e :: en, A, h => by
    obtain ⟨A1, A2, a, b, c, d⟩ := h
    show en.length + 1 = σ.length + 1
    rw [Slots.len d]
  | [], _ :: _, A, h => h.elim
  | _ :: _, [], A, h => h.elim
/-- one slot apart from the others -/
theorem Slots.focus {F L H : Hp} : ∀ {σ : List (Option V)} {en : En} {A : Fp} {i : Nat} {e : Option T}, Slots K F L H σ en A → en[i]? = some e →
    ∃ o Ai Ar, σ[i]? = some o ∧ Slot K F L H o e Ai ∧ A = fu Ai Ar ∧ Dj Ai Ar ∧ (∀ p, Ar p → H p ≠ none) ∧
      ∀ {F' L' H' : Hp}, Le F F' → Le L L' → (∀ p, Ar p → H' p = H p) → ∀ o' e' A', Slot K F' L' H' o' e' A' → Dj A' Ar → Slots K F' L' H' (σ.set i o') (en.set i e') (fu A' Ar)
  | [], [], A, i, e, h, q => by simp at q
  | o :: σ, u :: en, A, 0, e, h, q => by
    obtain ⟨A1, A2, a, b, c, d⟩ := h
    obtain rfl : u = e := by simpa using q
    subst a
    refine ⟨o, A1, A2, rfl, c, rfl, b, d.dom, fun {F' L' H'} eF eL eH o' e' A' s dj => ?_⟩
    exact ⟨A', A2, rfl, dj, s, d.keep eF eL eH⟩
  | o :: σ, u :: en, A, i + 1, e, h, q => by
    obtain ⟨A1, A2, a, b, c, d⟩ := h
    subst a
    obtain ⟨o1, Ai, Ar, h1, h2, h3, h4, h5, h6⟩ := Slots.focus d (show en[i]? = some e by simpa using q)
    subst h3
    refine ⟨o1, Ai, fu A1 Ar, by simpa using h1, h2, ?_, ?_, ?_, fun {F' L' H'} eF eL eH o' e' A' s dj => ?_⟩
    · rw [fu_left]
    · rintro p z (y | y)
      · exact b p y (.inl z)
      · exact h4 p z y
    · rintro p (y | y)
      · exact c.dom p y
      · exact h5 p y
    · refine ⟨A1, fu A' Ar, ?_, ?_, c.keep eF eL (fun p z => eH p (.inl z)), h6 eF eL (fun p z => eH p (.inr z)) o' e' A' s fun p z y => dj p z (.inr y)⟩
      · rw [fu_left]
      · rintro p z (y | y)
        · exact dj p y (.inl z)
        · exact b p z (.inr y)
  | [], _ :: _, A, i, e, h, q => h.elim
  | _ :: _, [], A, i, e, h, q => h.elim

/-! ### states and steps -/
structure Stk (K : Gx) (F L H : Hp) (σ : List (Option V)) (en : En) (A : Fp) : Prop where
  sl : Slots K F L H σ en A
  sF : Same F H
  sL : Same L H
  nF : ∀ p, A p → F p = none
  nL : ∀ p, A p → L p = none
structure Step (F H : Hp) (A : Fp) (F' H' : Hp) (A' : Fp) : Prop where
  fr : ∀ a o, H a = some o → ¬ A a → H' a = some o
  ow : ∀ a, A' a → A a ∨ H a = none
  fx : Same F F'
  fg : ∀ a, F a = none → F' a ≠ none → A a ∨ H a = none
  sF : Same F' H'
theorem Step.trans {F H F1 H1 F2 H2 : Hp} {A A1 A2 : Fp} (a : Step F H A F1 H1 A1) (b : Step F1 H1 A1 F2 H2 A2) : Step F H A F2 H2 A2 where
  fr := fun x o h n => by
    refine b.fr x o (a.fr x o h n) fun z => ?_
    rcases a.ow x z with q | q
    · exact n q
    · rw [h] at q; cases q
  ow := fun x z => by
    rcases b.ow x z with q | q
    · exact a.ow x q
    · by_cases y : A x
      · exact .inl y
      · right
        cases e : H x with
        | none => rfl
        | some o =>
          rw [a.fr x o e y] at q
          cases q
  fx := a.fx.trans b.fx
  fg := fun x h n => by
    by_cases z : F1 x = none
    · rcases b.fg x z n with q | q
      · exact a.ow x q
      · by_cases y : A x
        · exact .inl y
        · right
          cases e : H x with
          | none => rfl
          | some o =>
            rw [a.fr x o e y] at q
            cases q
    · exact a.fg x h z
  sF := b.sF
/-- nothing that stood is changed -/
structure Pur (F H F' H' : Hp) : Prop where
  h : Same H H'
  f : Same F F'
  g : ∀ a, F a = none → F' a ≠ none → H a = none
  s : Same F' H'
theorem Pur.refl {F H : Hp} (s : Same F H) : Pur F H F H := ⟨Same.refl H, Same.refl F, fun _ a b => absurd a b, s⟩
theorem Pur.trans {F H F1 H1 F2 H2 : Hp} (a : Pur F H F1 H1) (b : Pur F1 H1 F2 H2) : Pur F H F2 H2 where
  h := a.h.trans b.h
  f := a.f.trans b.f
  g := fun x p q => by
    by_cases z : F1 x = none
    · exact a.h.free (b.g x z q)
    · exact a.g x p z
  s := b.s
theorem Pur.new {F H H' : Hp} (s : Same F H) (e : Same H H') : Pur F H F H' := ⟨e, Same.refl F, fun _ a b => absurd a b, s.trans e⟩
theorem Same.eq {H H' : Hp} (e : Same H H') {p : Addr} (h : H p ≠ none) : H' p = H p := by
  cases q : H p with
  | none => exact absurd q h
  | some o => exact e p o q
theorem Pur.step {F H F' H' : Hp} {A B : Fp} (p : Pur F H F' H') (hB : ∀ a, B a → H a = none) : Step F H A F' H' (fu A B) :=
  ⟨fun a o h _ => p.h a o h, fun a z => z.elim .inl fun z => .inr (hB a z), p.f, fun a h n => .inr (p.g a h n), p.s⟩
theorem Pur.step0 {F H F' H' : Hp} {A : Fp} (p : Pur F H F' H') : Step F H A F' H' A :=
  ⟨fun a o h _ => p.h a o h, fun a z => .inl z, p.f, fun a h n => .inr (p.g a h n), p.s⟩
theorem Stk.pur {F L H F' H' : Hp} {σ : List (Option V)} {en : En} {A : Fp} (S : Stk K F L H σ en A) (p : Pur F H F' H') : Stk K F' L H' σ en A where
  sl := S.sl.keep (Le.of p.f) (Le.refl L) fun q z => Same.eq p.h (S.sl.dom q z)
  sF := p.s
  sL := S.sL.trans p.h
  nF := fun q z => by
    by_cases e : F' q = none
    · exact e
    · exact absurd (p.g q (S.nF q z) e) (S.sl.dom q z)
  nL := S.nL
open Classical in
/-- L and what the owned part holds: to be looked at -/
noncomputable def vw (L H : Hp) (A : Fp) : Hp := fun a => if A a then H a else L a
theorem vw_in {L H : Hp} {A : Fp} {a : Addr} (h : A a) : vw L H A a = H a := if_pos h
theorem vw_out {L H : Hp} {A : Fp} {a : Addr} (h : ¬ A a) : vw L H A a = L a := if_neg h
theorem vw_same {L H : Hp} {A : Fp} (s : Same L H) : Same (vw L H A) H := fun a o e => by
  by_cases z : A a
  · rw [vw_in z] at e; exact e
  · rw [vw_out z] at e; exact s a o e
theorem vw_le {L H : Hp} {A : Fp} (n : ∀ p, A p → L p = none) : Same L (vw L H A) := fun a o e => by
  by_cases z : A a
  · rw [n a z] at e; cases e
  · rw [vw_out z]; exact e
theorem vw_mono {L H H' : Hp} {A : Fp} (s : Same H H') : Same (vw L H A) (vw L H' A) := fun a o e => by
  by_cases z : A a
  · rw [vw_in z] at e ⊢; exact s a o e
  · rw [vw_out z] at e ⊢; exact e

/-! ### results -/
structure Ex where
  c : String
  fs : List Str
  ds : List D
inductive Rv where
  | ok (t : T) | ex (x : Ex) | no
inductive Rs where
  | ok (t : T) (e : En) | ex (x : Ex) (e : En) | no
inductive So where
  | nx (e : En) | rt (t : T) (e : En) | bk (e : En) | ex (x : Ex) (e : En) | no
/-- an exception: its class, its dict (frozen) -/
def ExRep (K : Gx) (F : Hp) (cls : Value) (d : Option Addr) (x : Ex) : Prop :=
  cls = .ref (cA K.K x.c) ∧ ∃ (dd : Addr) (vs : List V), d = some dd ∧ x.fs.length = vs.length ∧ F dd = some (.xd (x.fs.zip vs)) ∧ RepDs K F x.ds vs
/-- an expression that changes nothing -/
def tV (K : Gx) (g : En → Rv) (W : WX) : TE := fun σ H Q => ∃ F L A en, Stk K F L H σ en A ∧ match g en with
  | .ok t => ∀ v F' H' B, Pur F H F' H' → Rep K F' (vw L H' A) H' t v B → (∀ p, B p → H p = none) → (∀ p, B p → F' p = none) → Q v H'
  | .ex x => ∀ cls d F' H', Pur F H F' H' → ExRep K F' cls d x → W cls d σ H'
  | .no => False
/-- any expression -/
def tE (K : Gx) (f : En → Rs) (W : WX) : TE := fun σ H Q => ∃ F L A en, Stk K F L H σ en A ∧ match f en with
  | .ok t en' => ∀ v F' H' A' B, Stk K F' L H' σ en' A' → Rep K F' (vw L H' A') H' t v B → Dj A' B → (∀ p, B p → F' p = none) → (∀ p, B p → L p = none) → Step F H A F' H' (fu A' B) → Q v H'
  | .ex x en' => ∀ cls d F' H' A', Stk K F' L H' σ en' A' → ExRep K F' cls d x → Step F H A F' H' A' → W cls d σ H'
  | .no => False
/-- only the slots ws may differ -/
def Wr (ws : List Nat) (σ σ' : L2.St) : Prop := σ'.length = σ.length ∧ ∀ i, i ∉ ws → σ'[i]? = σ[i]?
theorem Wr.refl {ws : List Nat} {σ : L2.St} : Wr ws σ σ := ⟨rfl, fun _ _ => rfl⟩
theorem Wr.trans {ws : List Nat} {σ σ1 σ2 : L2.St} (a : Wr ws σ σ1) (b : Wr ws σ1 σ2) : Wr ws σ σ2 := ⟨b.1.trans a.1, fun i h => (b.2 i h).trans (a.2 i h)⟩
theorem Wr.mono {ws vs : List Nat} {σ σ1 : L2.St} (a : Wr ws σ σ1) (h : ∀ i ∈ ws, i ∈ vs) : Wr vs σ σ1 := ⟨a.1, fun i n => a.2 i fun z => n (h i z)⟩
theorem Wr.set {i : Nat} {v : Option V} {σ : L2.St} : Wr [i] σ (σ.set i v) := ⟨List.length_set, fun j h => by
  rw [List.getElem?_set_ne]
  intro e
  exact h (by rw [e]; exact List.mem_singleton.mpr rfl)⟩
/-- what is wanted behind a statement that began at F, H, A, σ; ws: the slots that it may write -/
def Cl (K : Gx) (F L H : Hp) (A : Fp) (σ : L2.St) (W : WX) (ws : List Nat) (D : Ends) : So → Prop
  | .nx en' => ∀ σ' F' H' A', Stk K F' L H' σ' en' A' → Step F H A F' H' A' → Wr ws σ σ' → D.nx σ' H'
  | .rt t en' => ∀ v σ' F' H' A' B, Stk K F' L H' σ' en' A' → Rep K F' L H' t v B → noLk t = true → Dj A' B → (∀ p, B p → F' p = none) → (∀ p, B p → L p = none) → Step F H A F' H' (fu A' B) → Wr ws σ σ' → D.rt v H'
  | .bk en' => ∀ σ' F' H' A', Stk K F' L H' σ' en' A' → Step F H A F' H' A' → Wr ws σ σ' → D.bk σ' H'
  | .ex x en' => ∀ cls d σ' F' H' A', Stk K F' L H' σ' en' A' → ExRep K F' cls d x → Step F H A F' H' A' → Wr ws σ σ' → W cls d σ' H'
  | .no => False
/-- a statement -/
def tS (K : Gx) (s : En → So) (W : WX) (ws : List Nat) : TS := fun D σ H => ∃ F L A en, Stk K F L H σ en A ∧ Cl K F L H A σ W ws D (s en)
/-- the same, seen from further on -/
theorem Cl.on {K : Gx} {F L H F1 H1 : Hp} {A A1 : Fp} {σ σ1 : L2.St} {W : WX} {ws vs : List Nat} {D : Ends} {r : So} (st : Step F H A F1 H1 A1) (w : Wr ws σ σ1) (hv : ∀ i ∈ vs, i ∈ ws) (c : Cl K F L H A σ W ws D r) : Cl K F1 L H1 A1 σ1 W vs D r := by
  cases r with
  | nx e => exact fun σ' F' H' A' S s2 w2 => c σ' F' H' A' S (st.trans s2) (w.trans (w2.mono hv))
  | rt t e => exact fun v σ' F' H' A' B S r n d b1 b2 s2 w2 => c v σ' F' H' A' B S r n d b1 b2 (st.trans s2) (w.trans (w2.mono hv))
  | bk e => exact fun σ' F' H' A' S s2 w2 => c σ' F' H' A' S (st.trans s2) (w.trans (w2.mono hv))
  | ex x e => exact fun cls d σ' F' H' A' S er s2 w2 => c cls d σ' F' H' A' S er (st.trans s2) (w.trans (w2.mono hv))
  | no => exact c
theorem Cl.ends {K : Gx} {F L H : Hp} {A : Fp} {σ : L2.St} {W : WX} {ws : List Nat} {D : Ends} {e : En} (N : L2.St → Hp → Prop) (h : ∀ σ' F' H' A', Stk K F' L H' σ' e A' → Step F H A F' H' A' → Wr ws σ σ' → N σ' H') : Cl K F L H A σ W ws { D with nx := N } (.nx e) := h
/-- what is wanted of an exception that leaves, and the pins that are looked at -/
structure Wt where
  w : WX
  p : List (Addr × Obj)
def gx (X : Cx) (W : Wt) : Gx := ⟨X.K, W.p⟩
/-- the judgements -/
abbrev VE (X : Cx) (W : Wt) (g : En → Rv) (e : Expr) : Prop := PE X e (tV (gx X W) g W.w)
abbrev DE (X : Cx) (W : Wt) (f : En → Rs) (e : Expr) : Prop := PE X e (tE (gx X W) f W.w)
abbrev SE (X : Cx) (W : Wt) (s : En → So) (ws : List Nat) (st : Stmt) : Prop := PS X st (tS (gx X W) s W.w ws)
abbrev SEs (X : Cx) (W : Wt) (s : En → So) (ws : List Nat) (st : List Stmt) : Prop := PSs X st (tS (gx X W) s W.w ws)
theorem pe_imp {X : Cx} {e : Expr} {t t' : TE} (h : PE X e t) (i : ∀ σ H Q, t' σ H Q → t σ H Q) : PE X e t' := ⟨fun pins s σ H Q I q => h.run pins s σ H Q I (i σ H Q q)⟩
theorem pt_imp {X : Cx} {e : Expr} {t t' : TT} (h : PT X e t) (i : ∀ σ H Q, t' σ H Q → t σ H Q) : PT X e t' := ⟨fun pins s σ H Q I q => h.run pins s σ H Q I (i σ H Q q)⟩
theorem pa_imp {X : Cx} {e : List Expr} {t t' : TA} (h : PA X e t) (i : ∀ σ H Q, t' σ H Q → t σ H Q) : PA X e t' := ⟨fun pos pins s σ H Q I q => h.run pos pins s σ H Q I (i σ H Q q)⟩
theorem ps_imp {X : Cx} {st : Stmt} {t t' : TS} (h : PS X st t) (i : ∀ D σ H, t' D σ H → t D σ H) : PS X st t' := ⟨fun pins s σ H D I q => h.run pins s σ H D I (i D σ H q)⟩
theorem pss_imp {X : Cx} {st : List Stmt} {t t' : TS} (h : PSs X st t) (i : ∀ D σ H, t' D σ H → t D σ H) : PSs X st t' := ⟨fun pins s σ H D I q => h.run pins s σ H D I (i D σ H q)⟩

/-! ### a pure expression is an expression -/
def liftV (g : En → Rv) : En → Rs := fun en => match g en with
  | .ok t => .ok t en
  | .ex x => .ex x en
  | .no => .no
theorem DE.ofV {X : Cx} {W : Wt} {g : En → Rv} {e : Expr} (h : VE X W g e) : DE X W (liftV g) e := pe_imp h fun σ H Q q => by
  obtain ⟨F, L, A, en, S, q⟩ := q
  refine ⟨F, L, A, en, S, ?_⟩
  unfold liftV at q
  cases e : g en with
  | ok t =>
    rw [e] at q
    intro v F' H' B p r b1 b2
    refine q v F' H' A B (S.pur p) r (fun x z y => absurd (b1 x y) (S.sl.dom x z)) b2 (fun x z => S.sL.free (b1 x z)) (p.step b1)
  | ex x =>
    rw [e] at q
    intro cls d F' H' p r
    exact q cls d F' H' A (S.pur p) r p.step0
  | no =>
    rw [e] at q
    exact q
end DT
/-! Data trees, part 3: operators on trees. -/
namespace DT
open PySem L2
variable {K : Gx}

abbrev T.i (n : Int) : T := .f (.a (.int n))
abbrev T.s (x : Str) : T := .f (.a (.str x))
abbrev T.b (b : Bool) : T := .f (.a (.bl b))
abbrev T.o : T := .f (.a .non)
/-- the greatest length of a list, a text -/
abbrev LINE : Nat := 16777216
theorem line_le {n : Nat} (h : n ≤ LINE) : n ≤ sizeLine := by rw [sizeLine_eq]; exact h
theorem line_lt {n : Nat} (h : n < LINE) : n < sizeLine := by rw [sizeLine_eq]; exact h

/-! ### making a node -/
theorem Reps.append {F L H : Hp} : ∀ {ts us : List T} {vs ws : List V} {A B : Fp}, Reps K F L H ts vs A → Reps K F L H us ws B → Dj A B → Reps K F L H (ts ++ us) (vs ++ ws) (fu A B)
  | [], us, vs, ws, A, B, h, h2, dj => by
    unfold Reps at h
    obtain ⟨a, b⟩ := h
    subst a b
    rw [e_fu]
    exact h2
  | t :: ts, us, vs, ws, A, B, h, h2, dj => by
    unfold Reps at h
    obtain ⟨v, vs', A1, A2, a, b, c, d, e⟩ := h
    subst a b
    have q := Reps.append e h2 (fun p x y => dj p (.inr x) y)
    show Reps K F L H (t :: (ts ++ us)) (v :: (vs' ++ ws)) _
    unfold Reps
    exact ⟨v, vs' ++ ws, A1, fu A2 B, rfl, fu_assoc, fun p x y => y.elim (c p x) (dj p (.inl x)), d, q⟩
/-- a new object over its parts -/
theorem Rep.node {F L H : Hp} {k : Kd} {ts : List T} {vs : List V} {B : Fp} {p : Addr} {o : HO} (h : Reps K F L H ts vs B) (n : H p = none) (sL : Same L H) (sF : Same F H) (x : ObX K (upd H p o) p k vs) :
    Rep K F L (upd H p o) (.n .ow k ts) (.ref p) (fu (fo p) B) ∧ Same H (upd H p o) := by
  have nB : ¬ B p := fun z => Reps.dom ts vs B h p z n
  refine ⟨?_, fun a u e => by rw [upd_ne (ne_of_none e n)]; exact e⟩
  unfold Rep
  refine ⟨p, vs, B, rfl, x, nB, rfl, Reps.keep (Le.refl F) (Le.refl L) ts vs B (fun q z => ?_) h⟩
  exact upd_ne fun e => nB (e ▸ z)
theorem Reps.nil {F L H : Hp} : Reps K F L H [] [] fe := by
  unfold Reps
  exact ⟨rfl, rfl⟩

/-! ### an operator on two values -/
def Op2 (K : Gx) (r : R2) (φ : T → T → Option T) : Prop := ∀ (F L H : Hp) (x y : V) (t1 t2 t : T) (A1 A2 : Fp) (Q : VK), Same F H → Same L H → Rep K F L H t1 x A1 → Rep K F L H t2 y A2 → Dj A1 A2 → φ t1 t2 = some t →
  (∀ v H' B, Same H H' → Rep K F L H' t v B → (∀ p, B p → A1 p ∨ A2 p ∨ H p = none) → Q v H') → r x y H Q
/-- the two, one behind the other -/
def v2 (φ : T → T → Option T) (g1 g2 : En → Rv) : En → Rv := fun en => match g1 en with
  | .ok t1 => (match g2 en with
    | .ok t2 => (match φ t1 t2 with
      | some t => .ok t
      | none => .no)
    | r => r)
  | r => r
theorem v2_ok {r : R2} {φ : T → T → Option T} {g1 g2 : En → Rv} {W : WX} (hφ : Op2 K r φ) {σ : L2.St} {H : Hp} {Q : VK} (q : tV K (v2 φ g1 g2) W σ H Q) : tOp r (tV K g1 W) (tV K g2 W) σ H Q := by
  obtain ⟨F, L, A, en, S, q⟩ := q
  refine ⟨F, L, A, en, S, ?_⟩
  unfold v2 at q
  cases e1 : g1 en with
  | no =>
    rw [e1] at q
    exact q
  | ex x =>
    rw [e1] at q
    exact q
  | ok t1 =>
    rw [e1] at q
    intro v1 F1 H1 B1 p1 r1 b1 c1
    refine ⟨F1, L, A, en, S.pur p1, ?_⟩
    dsimp only at q
    cases e2 : g2 en with
    | no =>
      rw [e2] at q
      exact q
    | ex x =>
      rw [e2] at q
      exact fun cls d F2 H2 p2 er => q cls d F2 H2 (p1.trans p2) er
    | ok t2 =>
      rw [e2] at q
      intro v2 F2 H2 B2 p2 r2 b2 c2
      dsimp only at q
      cases e3 : φ t1 t2 with
      | none =>
        rw [e3] at q
        exact q.elim
      | some t =>
        rw [e3] at q
        have S2 := (S.pur p1).pur p2
        have d1 := Rep.dom _ _ _ r1
        have r1' := Rep.keep (Le.of p2.f) (Le.of (vw_mono p2.h)) t1 v1 B1 (fun a z => Same.eq p2.h (d1 a z)) r1
        refine hφ F2 (vw L H2 A) H2 v1 v2 t1 t2 t B1 B2 Q S2.sF (vw_same S2.sL) r1' r2 (fun a z y => d1 a z (b2 a y)) e3 fun v H' B sm rp hb => ?_
        have pn : Pur F2 H2 F2 H' := Pur.new S2.sF sm
        refine q v F2 H' B ((p1.trans p2).trans pn) (Rep.keep (Le.refl _) (Le.of (vw_mono sm)) t v B (fun _ _ => rfl) rp) (fun a z => ?_) (fun a z => ?_)
        · rcases hb a z with y | y | y
          · exact b1 a y
          · exact p1.h.free (b2 a y)
          · exact p1.h.free (p2.h.free y)
        · rcases hb a z with y | y | y
          · by_cases w : F2 a = none
            · exact w
            · exact absurd (p2.g a (c1 a y) w) (d1 a y)
          · exact c2 a y
          · exact S2.sF.free y
section
variable {X : Cx} {W : Wt} {g1 g2 g3 : En → Rv} {a b c : Expr} {pos : Pos}
theorem VE.bin {op : Operator} {r : R2} {φ : T → T → Option T} (ho : OpR X (binaryOp op) r) (hφ : Op2 (gx X W) r φ) (ha : VE X W g1 a) (hb : VE X W g2 b) : VE X W (v2 φ g1 g2) (.BinOp a op b pos) :=
  pe_imp (pe_op ho ha hb) fun _ _ _ q => v2_ok hφ q
theorem VE.cmp {op : CmpOp} {r : R2} {φ : T → T → Option T} (ho : OpR X (compareOp op) r) (hφ : Op2 (gx X W) r φ) (ha : VE X W g1 a) (hb : VE X W g2 b) (hm : behindInMarks op b = false) : VE X W (v2 φ g1 g2) (.Compare a [op] [b] pos) :=
  pe_imp (pe_cmpR ho ha hb hm) fun _ _ _ q => v2_ok hφ q
end

/-! ### flat answers -/
theorem Op2.flat {r : R2} {φ : T → T → Option T} (h : ∀ (F L H : Hp) (x y : V) (t1 t2 t : T) (A1 A2 : Fp), Same F H → Same L H → Rep K F L H t1 x A1 → Rep K F L H t2 y A2 → φ t1 t2 = some t →
    ∃ z : Fl, t = .f (.a z) ∧ ∀ Q : VK, Q z.v H → r x y H Q) : Op2 K r φ := by
  intro F L H x y t1 t2 t A1 A2 Q sF sL r1 r2 _ e q
  obtain ⟨z, rfl, k⟩ := h F L H x y t1 t2 t A1 A2 sF sL r1 r2 e
  exact k Q (q z.v H fe (Same.refl H) Rep.of_flat fun _ z => z.elim)
/-- two ints -/
def i2 (C : Int → Int → Bool) (g : Int → Int → Fl) : T → T → Option T
  | .f (.a (.int i)), .f (.a (.int j)) => if C i j then some (.f (.a (g i j))) else none
  | _, _ => none
theorem i2_some {C : Int → Int → Bool} {g : Int → Int → Fl} {t1 t2 t : T} (e : i2 C g t1 t2 = some t) : ∃ i j, t1 = .f (.a (.int i)) ∧ t2 = .f (.a (.int j)) ∧ C i j = true ∧ t = .f (.a (g i j)) := by
  unfold i2 at e
  split at e
  · rename_i i j
    split at e
    · rename_i h
      exact ⟨i, j, rfl, rfl, h, (Option.some.inj e).symm⟩
    · cases e
  · cases e
theorem op2_i {C : Int → Int → Bool} {P : Int → Int → Prop} {g : Int → Int → Fl} {gv : Int → Int → V} (hg : ∀ i j, gv i j = (g i j).v) (hC : ∀ i j, C i j = true → P i j) : Op2 K (rI P gv) (i2 C g) := Op2.flat fun F L H x y t1 t2 t A1 A2 _ _ r1 r2 e => by
  obtain ⟨i, j, rfl, rfl, c, rfl⟩ := i2_some e
  obtain ⟨rfl, _⟩ := r1.flat
  obtain ⟨rfl, _⟩ := r2.flat
  exact ⟨_, rfl, fun Q q => ⟨i, j, rfl, rfl, hC i j c, by rw [hg]; exact q⟩⟩
theorem op2_i0 {g : Int → Int → Fl} {gv : Int → Int → V} (hg : ∀ i j, gv i j = (g i j).v) : Op2 K (rI0 gv) (i2 (fun _ _ => true) g) := Op2.flat fun F L H x y t1 t2 t A1 A2 _ _ r1 r2 e => by
  obtain ⟨i, j, rfl, rfl, c, rfl⟩ := i2_some e
  obtain ⟨rfl, _⟩ := r1.flat
  obtain ⟨rfl, _⟩ := r2.flat
  exact ⟨_, rfl, fun Q q => ⟨i, j, rfl, rfl, by rw [hg]; exact q⟩⟩
def subT : T → T → Option T := i2 (fun _ _ => true) fun i j => .int (i - j)
def ltT : T → T → Option T := i2 (fun _ _ => true) fun i j => .bl (decide (i < j))
def leT : T → T → Option T := i2 (fun _ _ => true) fun i j => .bl (decide (i ≤ j))
def gtT : T → T → Option T := i2 (fun _ _ => true) fun i j => .bl (decide (j < i))
def geT : T → T → Option T := i2 (fun _ _ => true) fun i j => .bl (decide (j ≤ i))
def bandT : T → T → Option T := i2 (fun _ _ => true) fun i j => .int (Builtin.bitAnd i j)
def borT : T → T → Option T := i2 (fun _ _ => true) fun i j => .int (Builtin.bitOr i j)
/-- one of the two below 2 ^ 64 in size, or both of few bits -/
def mulC (i j : Int) : Bool := (decide (-(2 ^ 64) < i ∧ i < 2 ^ 64) || decide (-(2 ^ 64) < j ∧ j < 2 ^ 64)) || decide (i.natAbs.log2 < 100000 ∧ j.natAbs.log2 < 100000)
def mulT : T → T → Option T := i2 mulC fun i j => .int (i * j)
def modT : T → T → Option T := i2 (fun _ j => decide (0 < j)) fun i j => .int (i % j)
def fdivT : T → T → Option T := i2 (fun _ j => decide (j ≠ 0 ∧ j.natAbs.log2 < 9000)) fun i j => .int (if 0 < j then i / j else i.fdiv j)
def powT : T → T → Option T := i2 (fun i j => decide (0 ≤ j ∧ j ≤ 1000000 ∧ i.natAbs < 2 ^ 64)) fun i j => .int (i ^ j.toNat)
theorem o2_sub : Op2 K (rI0 fun i j => .int (i - j)) subT := op2_i0 fun _ _ => rfl
theorem o2_lt : Op2 K (rI0 fun i j => .bl (decide (i < j))) ltT := op2_i0 fun _ _ => rfl
theorem o2_le : Op2 K (rI0 fun i j => .bl (decide (i ≤ j))) leT := op2_i0 fun _ _ => rfl
theorem o2_gt : Op2 K (rI0 fun i j => .bl (decide (j < i))) gtT := op2_i0 fun _ _ => rfl
theorem o2_ge : Op2 K (rI0 fun i j => .bl (decide (j ≤ i))) geT := op2_i0 fun _ _ => rfl
theorem o2_and : Op2 K (rI0 fun i j => .int (Builtin.bitAnd i j)) bandT := op2_i0 fun _ _ => rfl
theorem o2_or : Op2 K (rI0 fun i j => .int (Builtin.bitOr i j)) borT := op2_i0 fun _ _ => rfl
theorem op_mulA {X : Cx} : OpR X (binaryOp .Mult) (rI IntMulOk fun i j => .int (i * j)) := opI fun _ _ _ _ _ _ _ hc q => PyProof.Rows.mul_int q hc
theorem o2_mul : Op2 K (rI IntMulOk fun i j => .int (i * j)) mulT := op2_i (fun _ _ => rfl) fun i j c => by
  rcases Bool.or_eq_true_iff.mp c with c | c
  · rcases Bool.or_eq_true_iff.mp c with c | c
    · exact (show CMul i j from .inl (of_decide_eq_true c)).ok
    · exact (show CMul i j from .inr (of_decide_eq_true c)).ok
  · obtain ⟨h1, h2⟩ := of_decide_eq_true c
    have bits : ∀ x : Int, x.natAbs.log2 < 100000 → Builtin.Int.intBits x ≤ 2 ^ 20 := fun x h => by
      unfold Builtin.Int.intBits
      have e : (2 : Nat) ^ 20 = 1048576 := by decide
      rw [e]
      split <;> omega
    exact IntMulOk.of_bits (bits i h1) (bits j h2)
theorem o2_mod : Op2 K (rI (fun _ j => 0 < j) fun i j => .int (i % j)) modT := op2_i (fun _ _ => rfl) fun i j c => of_decide_eq_true c
theorem noPy {i j : Int} (h : j ≠ 0 ∧ j.natAbs.log2 < 9000) : Builtin.divisionGoesByPylong i j = false := by
  show (decide ((if j == 0 then 0 else j.natAbs.log2 / 30 + 1) > 300) && decide ((if i == 0 then 0 else i.natAbs.log2 / 30 + 1) > (if j == 0 then 0 else j.natAbs.log2 / 30 + 1) + 150)) = false
  rw [if_neg (show ¬ (j == 0) = true by simpa using h.1)]
  have k : ¬ (j.natAbs.log2 / 30 + 1 > 300) := by
    have := h.2
    omega
  rw [decide_eq_false k, Bool.false_and]
abbrev rFdiv : R2 := rI (fun _ j => j ≠ 0 ∧ j.natAbs.log2 < 9000) fun i j => .int (if 0 < j then i / j else i.fdiv j)
theorem op_fdivA {X : Cx} : OpR X (binaryOp .FloorDiv) rFdiv := opI (g := fun i j => if 0 < j then i / j else i.fdiv j) fun i j _ _ _ _ _ hc q => PyProof.Rows.floordiv_int hc.1 (by
  have e : i.fdiv j = if 0 < j then i / j else i.fdiv j := by
    split
    · exact Int.fdiv_eq_ediv_of_nonneg i (by omega)
    · rfl
  rw [e]
  exact q) (.inl (noPy hc))
theorem o2_fdiv : Op2 K rFdiv fdivT := op2_i (fun _ _ => rfl) fun i j c => of_decide_eq_true c
theorem o2_pow : Op2 K (rI CPow fun i j => .int (i ^ j.toNat)) powT := op2_i (fun _ _ => rfl) fun i j c => (of_decide_eq_true c : 0 ≤ j ∧ j ≤ 1000000 ∧ i.natAbs < 2 ^ 64)

/-! ### + of ints, texts, lists, tuples -/
def addT : T → T → Option T
  | .f (.a (.int i)), .f (.a (.int j)) => some (.i (i + j))
  | .f (.a (.str x)), .f (.a (.str y)) => if x.length + y.length ≤ LINE then some (.s (x ++ y)) else none
  | s, t => (match kids s, kids t with
    | some (.lst, xs), some (.lst, ys) => if xs.length + ys.length ≤ LINE then some (.n .ow .lst (xs ++ ys)) else none
    | _, _ => none)
theorem or_l {r r' : R2} {φ : T → T → Option T} {x y : V} {H : Hp} {Q : VK} (h : r x y H Q) : (fun x y H Q => r x y H Q ∨ r' x y H Q : R2) x y H Q := .inl h
abbrev rAddS : R2 := fun x y H Q => ∃ i j, x = .str i ∧ y = .str j ∧ i.length + j.length ≤ sizeLine ∧ Q (.str (i ++ j)) H
abbrev rAddI : R2 := rI0 fun i j => .int (i + j)
abbrev rAddT : R2 := fun x y H Q => rAddI x y H Q ∨ (fun x y H Q => rAddS x y H Q ∨ rCat x y H Q) x y H Q
theorem op_addT {X : Cx} : OpR X (binaryOp .Add) rAddT := op_add.or (op_add_str.or op_cat)
theorem catL {F L H : Hp} {x y : V} {t1 t2 : T} {xs ys : List T} {A1 A2 : Fp} {Q : VK} (sF : Same F H) (sL : Same L H) (r1 : Rep K F L H t1 x A1) (r2 : Rep K F L H t2 y A2) (dj : Dj A1 A2) (e1 : kids t1 = some (.lst, xs)) (e2 : kids t2 = some (.lst, ys))
    (hl : xs.length + ys.length ≤ LINE) (q : ∀ v H' B, Same H H' → Rep K F L H' (.n .ow .lst (xs ++ ys)) v B → (∀ p, B p → A1 p ∨ A2 p ∨ H p = none) → Q v H') : rCat x y H Q := by
  obtain ⟨p, vs, B1, rfl, o1, i1, k1⟩ := Rep.kids r1 e1 sF sL
  obtain ⟨p2, vs2, B2, rfl, o2, i2, k2⟩ := Rep.kids r2 e2 sF sL
  have l1 := Reps.length k1
  have l2 := Reps.length k2
  refine ⟨p, p2, vs, vs2, rfl, rfl, o1, o2, by rw [← l1, ← l2]; exact line_le hl, fun n hn => ?_⟩
  obtain ⟨h1, h2⟩ := Rep.node (k := .lst) (o := .lst (vs ++ vs2)) (Reps.append k1 k2 fun a z w => dj a (i1 a z) (i2 a w)) hn sL sF upd_same
  refine q _ _ _ h2 h1 fun a z => ?_
  rcases z with z | z | z
  · obtain rfl : a = n := z
    exact .inr (.inr hn)
  · exact .inl (i1 a z)
  · exact .inr (.inl (i2 a z))
theorem o2_add : Op2 K rAddT addT := by
  intro F L H x y t1 t2 t A1 A2 Q sF sL r1 r2 dj e q
  unfold addT at e
  split at e
  · cases e
    obtain ⟨rfl, _⟩ := r1.flat
    obtain ⟨rfl, _⟩ := r2.flat
    exact .inl ⟨_, _, rfl, rfl, q _ H fe (Same.refl H) Rep.of_flat fun _ z => z.elim⟩
  · split at e
    · rename_i hl
      cases e
      obtain ⟨rfl, _⟩ := r1.flat
      obtain ⟨rfl, _⟩ := r2.flat
      exact .inr (.inl ⟨_, _, rfl, rfl, line_le hl, q _ H fe (Same.refl H) Rep.of_flat fun _ z => z.elim⟩)
    · cases e
  · split at e
    · rename_i xs ys e1 e2
      split at e
      · rename_i hl
        cases e
        exact .inr (.inr (catL sF sL r1 r2 dj e1 e2 hl q))
      · cases e
    · cases e
end DT
/-! Data trees, part 4: equality, membership, subscripts, tests. -/
namespace DT
open PySem L2
variable {K : Gx}

/-! ### data for == -/
mutual
def toPy : D → PyData
  | .a .non => .none
  | .a (.bl b) => .bool b
  | .a (.int i) => .int i
  | .a (.str x) => .str x
  | .n .lst ds => .list (toPys ds)
  | .n .scr ds => .list (toPys ds)
  | .n .tup ds => .tuple (toPys ds)
  | .n _ _ => .dict []
def toPys : List D → List PyData
  | [] => []
  | d :: ds => toPy d :: toPys ds
end
theorem toPys_map : ∀ ds : List D, toPys ds = ds.map toPy
  | [] => rfl
  | d :: ds => congrArg (toPy d :: ·) (toPys_map ds)
theorem dp_flat {H : Hp} (x : Fl) : Dp K.K H x.v (toPy (.a x)) := by
  cases x with
  | non => exact .non
  | bl b => exact .bl b
  | int i => exact .int i
  | str x => exact .str x
mutual
theorem RepD.dp {F H : Hp} (s : Same F H) : ∀ (d : D) (v : V), RepD K F d v → (toPy d).canLay0 = true → Dp K.K H v (toPy d)
  | .a x, v, h, _ => by
    unfold RepD at h
    rw [h]
    exact dp_flat x
  | .n k ds, v, h, c => by
    unfold RepD at h
    obtain ⟨p, vs, rfl, o, r⟩ := h
    cases k with
    | lst =>
      simp only [toPy, PyData.canLay0] at c ⊢
      exact .lst (SqL.of (s _ _ o)) (RepDs.dp s ds vs r c)
    | scr =>
      simp only [toPy, PyData.canLay0] at c ⊢
      exact .lst (s.seq o) (RepDs.dp s ds vs r c)
    | tup =>
      simp only [toPy, PyData.canLay0] at c ⊢
      exact .tup (Ob.mono (k := .tup) (Le.of s) o) (RepDs.dp s ds vs r c)
    | dic ks => simp [toPy, PyData.canLay0] at c
    | ins a b => simp [toPy, PyData.canLay0] at c
    | exc a b => simp [toPy, PyData.canLay0] at c
theorem RepDs.dp {F H : Hp} (s : Same F H) : ∀ (ds : List D) (vs : List V), RepDs K F ds vs → PyData.canLayAll0 (toPys ds) = true → DpAll K.K H vs (toPys ds)
  | [], vs, h, _ => by
    unfold RepDs at h
    subst h
    exact .nil
  | d :: ds, vs, h, c => by
    unfold RepDs at h
    obtain ⟨v, ws, rfl, a, b⟩ := h
    simp only [toPys, PyData.canLayAll0, Bool.and_eq_true] at c ⊢
    exact .cons (RepD.dp s d v a c.1) (RepDs.dp s ds ws b c.2)
end
mutual
theorem Rep.dp {F L H : Hp} (sF : Same F H) (sL : Same L H) : ∀ (t : T) (v : V) (A : Fp), Rep K F L H t v A → (toPy (era t)).canLay0 = true → Dp K.K H v (toPy (era t))
  | .f d, v, A, h, c => by
    unfold Rep at h
    unfold era at c ⊢
    exact RepD.dp sF d v h.2 c
  | .n m k ts, v, A, h, c => by
    have e : DT.kids (.n m k ts) = some (k, ts) := rfl
    obtain ⟨p, vs, B, rfl, o, _, r⟩ := Rep.kids h e sF sL
    unfold era at c ⊢
    cases k with
    | lst =>
      simp only [toPy, PyData.canLay0] at c ⊢
      exact .lst (SqL.of o) (Reps.dp sF sL ts vs B r c)
    | scr =>
      simp only [toPy, PyData.canLay0] at c ⊢
      exact .lst o (Reps.dp sF sL ts vs B r c)
    | tup =>
      simp only [toPy, PyData.canLay0] at c ⊢
      exact .tup o (Reps.dp sF sL ts vs B r c)
    | dic ks => simp [toPy, PyData.canLay0] at c
    | ins a b => simp [toPy, PyData.canLay0] at c
    | exc a b => simp [toPy, PyData.canLay0] at c
theorem Reps.dp {F L H : Hp} (sF : Same F H) (sL : Same L H) : ∀ (ts : List T) (vs : List V) (A : Fp), Reps K F L H ts vs A → PyData.canLayAll0 (toPys (eras ts)) = true → DpAll K.K H vs (toPys (eras ts))
  | [], vs, A, h, _ => by
    unfold Reps at h
    obtain ⟨a, _⟩ := h
    subst a
    exact .nil
  | t :: ts, vs, A, h, c => by
    unfold Reps at h
    obtain ⟨v, ws, A1, A2, rfl, _, _, a, b⟩ := h
    simp only [eras, toPys, PyData.canLayAll0, Bool.and_eq_true] at c ⊢
    exact .cons (Rep.dp sF sL t v A1 a c.1) (Reps.dp sF sL ts ws A2 b c.2)
end
/-- they can be compared -/
def shD (d : D) : Bool := SeqAt.shaped (toPy d)
/-- == of data -/
def eqD (d e : D) : Bool := PyData.eqv (toPy d) (toPy e)
theorem shaped_can {d : PyData} (h : SeqAt.shaped d = true) : d.canLay0 = true := (Bool.and_eq_true_iff.mp h).1
/-- the flat pairs that == tells apart whatever their size -/
def scalF : Fl → Fl → Bool
  | .int _, .bl _ => false
  | .bl _, .int _ => false
  | _, _ => true
def eqF (t u : T) : Option Bool := match t, u with
  | .f (.a x), .f (.a y) => if scalF x y = true then some (decide (x = y)) else none
  | _, _ => none
def eqT (t u : T) : Option T := match eqF t u with
  | some b => some (.b b)
  | none => if (shD (era t) && shD (era u)) = true then some (.b (eqD (era t) (era u))) else none
def neT (t u : T) : Option T := match eqF t u with
  | some b => some (.b (!b))
  | none => if (shD (era t) && shD (era u)) = true then some (.b (!eqD (era t) (era u))) else none
theorem scalF_ok {x y : Fl} (h : scalF x y = true) : scal x.v y.v = true ∧ decide (x.v = y.v) = decide (x = y) := by
  refine ⟨?_, by rw [Bool.eq_iff_iff]; simp only [decide_eq_true_eq]; exact ⟨Fl.v_inj, fun e => by rw [e]⟩⟩
  cases x <;> cases y <;> first | rfl | cases h
theorem eqF_ok {F L H : Hp} {x y : V} {t1 t2 : T} {A1 A2 : Fp} {b : Bool} (r1 : Rep K F L H t1 x A1) (r2 : Rep K F L H t2 y A2) (e : eqF t1 t2 = some b) : scal x y = true ∧ decide (x = y) = b := by
  unfold eqF at e
  split at e
  · split at e
    · rename_i h
      cases e
      obtain ⟨rfl, _⟩ := r1.flat
      obtain ⟨rfl, _⟩ := r2.flat
      exact scalF_ok h
    · cases e
  · cases e
abbrev rEqA (K : PySem.W.Frag) : R2 := fun x y H Q => rEq x y H Q ∨ rEqD K x y H Q
abbrev rNeA (K : PySem.W.Frag) : R2 := fun x y H Q => rNe x y H Q ∨ rNeD K x y H Q
theorem op_eqA {X : Cx} (hu : X.A.units + 65 < cLine) : OpR X (compareOp .Eq) (rEqA X.K) := op_eq.or (op_eqD (by omega))
theorem op_neA {X : Cx} (hu : X.A.units + 65 < cLine) : OpR X (compareOp .NotEq) (rNeA X.K) := op_ne.or (op_neD (by omega))
theorem o2_eq : Op2 K (rEqA K.K) eqT := Op2.flat fun F L H x y t1 t2 t A1 A2 sF sL r1 r2 e => by
  unfold eqT at e
  split at e
  · rename_i b eb
    cases e
    obtain ⟨h1, h2⟩ := eqF_ok r1 r2 eb
    exact ⟨.bl b, rfl, fun Q q => .inl ⟨h1, by rw [h2]; exact q⟩⟩
  · split at e
    · rename_i c
      obtain ⟨c1, c2⟩ := Bool.and_eq_true_iff.mp c
      cases e
      exact ⟨_, rfl, fun Q q => .inr ⟨_, _, Rep.dp sF sL t1 x A1 r1 (shaped_can c1), Rep.dp sF sL t2 y A2 r2 (shaped_can c2), c1, c2, q⟩⟩
    · cases e
theorem o2_ne : Op2 K (rNeA K.K) neT := Op2.flat fun F L H x y t1 t2 t A1 A2 sF sL r1 r2 e => by
  unfold neT at e
  split at e
  · rename_i b eb
    cases e
    obtain ⟨h1, h2⟩ := eqF_ok r1 r2 eb
    exact ⟨.bl (!b), rfl, fun Q q => .inl ⟨h1, by rw [h2]; exact q⟩⟩
  · split at e
    · rename_i c
      obtain ⟨c1, c2⟩ := Bool.and_eq_true_iff.mp c
      cases e
      exact ⟨_, rfl, fun Q q => .inr ⟨_, _, Rep.dp sF sL t1 x A1 r1 (shaped_can c1), Rep.dp sF sL t2 y A2 r2 (shaped_can c2), c1, c2, q⟩⟩
    · cases e

/-! ### is None -/
def isNT (t u : T) : Option T := match t, u with
  | .f (.a x), .f (.a .non) => some (.b (decide (x = .non)))
  | .f (.n _ _), .f (.a .non) => some (.b false)
  | .n _ _ _, .f (.a .non) => some (.b false)
  | _, _ => none
def notNT (t u : T) : Option T := match t, u with
  | .f (.a x), .f (.a .non) => some (.b (!decide (x = .non)))
  | .f (.n _ _), .f (.a .non) => some (.b true)
  | .n _ _ _, .f (.a .non) => some (.b true)
  | _, _ => none
abbrev rIsN0 : R2 := fun x y H Q => y = .non ∧ Q (.bl (decide (x = .non))) H
abbrev rNotN0 : R2 := fun x y H Q => y = .non ∧ Q (.bl (!decide (x = .non))) H
theorem Fl.v_non (x : Fl) : decide (x.v = .non) = decide (x = .non) := by cases x <;> simp [Fl.v]
theorem Rep.ref {F L H : Hp} {m : Md} {k : Kd} {ts : List T} {v : V} {A : Fp} (h : Rep K F L H (.n m k ts) v A) : ∃ p, v = .ref p := by
  cases m <;> unfold Rep at h
  · obtain ⟨p, _, _, e, _⟩ := h
    exact ⟨p, e⟩
  · obtain ⟨p, _, e, _⟩ := h
    exact ⟨p, e⟩
theorem Rep.refD {F L H : Hp} {k : Kd} {ds : List D} {v : V} {A : Fp} (h : Rep K F L H (.f (.n k ds)) v A) : ∃ p, v = .ref p := by
  unfold Rep RepD at h
  obtain ⟨_, p, _, e, _⟩ := h
  exact ⟨p, e⟩
theorem o2_isN : Op2 K rIsN0 isNT := Op2.flat fun F L H x y t1 t2 t A1 A2 sF sL r1 r2 e => by
  unfold isNT at e
  split at e
  · cases e
    obtain ⟨rfl, _⟩ := r1.flat
    obtain ⟨rfl, _⟩ := r2.flat
    exact ⟨_, rfl, fun Q q => ⟨rfl, by rw [Fl.v_non]; exact q⟩⟩
  · cases e
    obtain ⟨p, rfl⟩ := r1.refD
    obtain ⟨rfl, _⟩ := r2.flat
    exact ⟨_, rfl, fun Q q => ⟨rfl, q⟩⟩
  · cases e
    obtain ⟨p, rfl⟩ := r1.ref
    obtain ⟨rfl, _⟩ := r2.flat
    exact ⟨_, rfl, fun Q q => ⟨rfl, q⟩⟩
  · cases e
theorem o2_notN : Op2 K rNotN0 notNT := Op2.flat fun F L H x y t1 t2 t A1 A2 sF sL r1 r2 e => by
  unfold notNT at e
  split at e
  · cases e
    obtain ⟨rfl, _⟩ := r1.flat
    obtain ⟨rfl, _⟩ := r2.flat
    exact ⟨_, rfl, fun Q q => ⟨rfl, by rw [Fl.v_non]; exact q⟩⟩
  · cases e
    obtain ⟨p, rfl⟩ := r1.refD
    obtain ⟨rfl, _⟩ := r2.flat
    exact ⟨_, rfl, fun Q q => ⟨rfl, q⟩⟩
  · cases e
    obtain ⟨p, rfl⟩ := r1.ref
    obtain ⟨rfl, _⟩ := r2.flat
    exact ⟨_, rfl, fun Q q => ⟨rfl, q⟩⟩
  · cases e

/-! ### dicts by their keys and values -/
def keyF : Fl → Option Key
  | .int i => some (.inl i)
  | .str x => some (.inr x)
  | _ => none
theorem keyF_v {x : Fl} {k : Key} (h : keyF x = some k) : x.v = kV k := by
  cases x <;> simp [keyF] at h <;> subst h <;> rfl
def keyT : T → Option Key
  | .f (.a x) => keyF x
  | _ => none
def flK : Key → Fl
  | .inl i => .int i
  | .inr x => .str x
theorem flK_v (k : Key) : (flK k).v = kV k := by cases k <;> rfl
def dget {α : Type} : List Key → List α → Key → Option α
  | k :: ks, x :: xs, q => if k = q then some x else dget ks xs q
  | _, _, _ => none
def dputK : List Key → Key → List Key
  | [], q => [q]
  | k :: ks, q => if k = q then k :: ks else k :: dputK ks q
def dputV {α : Type} : List Key → List α → Key → α → List α
  | k :: ks, x :: xs, q, y => if k = q then y :: xs else x :: dputV ks xs q y
  | [], _, _, y => [y]
  | _ :: _, [], _, _ => []
theorem dget_val : ∀ {ks : List Key} {vs : List V} {q : Key}, ks.length = vs.length → valV (ks.zip vs) q = dget ks vs q
  | [], [], q, _ => rfl
  | k :: ks, v :: vs, q, h => by
    show valV ((k, v) :: ks.zip vs) q = if k = q then some v else dget ks vs q
    by_cases e : k = q
    · rw [if_pos e, valV_pos (p := (k, v)) e]
    · rw [if_neg e, valV_neg (p := (k, v)) e]
      exact dget_val (by simpa using h)
  | [], _ :: _, _, h => by simp at h
  | _ :: _, [], _, h => by simp at h
theorem Reps.dget {F L H : Hp} : ∀ {ks : List Key} {ts : List T} {vs : List V} {A : Fp} {q : Key}, Reps K F L H ts vs A → ks.length = vs.length →
    (∀ t, DT.dget ks ts q = some t → ∃ v B, DT.dget ks vs q = some v ∧ Rep K F L H t v B ∧ ∀ a, B a → A a) ∧ (DT.dget ks ts q = none → DT.dget ks vs q = none)
  | [], ts, vs, A, q, h, hl => by
    constructor
    · intro t e
      cases ts <;> cases e
    · intro _
      cases vs with
      | nil => rfl
      | cons v vs => simp at hl
  | k :: ks, [], vs, A, q, h, hl => by
    unfold Reps at h
    rw [h.1] at hl
    simp at hl
  | k :: ks, u :: ts, vs, A, q, h, hl => by
    unfold Reps at h
    obtain ⟨v, ws, A1, A2, rfl, rfl, c, d, e⟩ := h
    have ih := Reps.dget (q := q) e (show ks.length = ws.length by simpa using hl)
    by_cases z : k = q
    · have e1 : ∀ {α : Type} (x : α) (xs : List α), DT.dget (k :: ks) (x :: xs) q = some x := fun x xs => if_pos z
      rw [e1, e1]
      refine ⟨fun t y => ?_, fun y => by cases y⟩
      cases y
      exact ⟨v, A1, rfl, d, fun a w => .inl w⟩
    · have e1 : ∀ {α : Type} (x : α) (xs : List α), DT.dget (k :: ks) (x :: xs) q = DT.dget ks xs q := fun x xs => if_neg z
      rw [e1, e1]
      refine ⟨fun t y => ?_, fun y => ih.2 y⟩
      obtain ⟨v', B, h1, h2, h3⟩ := ih.1 t y
      exact ⟨v', B, h1, h2, fun a w => .inr (h3 a w)⟩

/-! ### x in y -/
abbrev rInK : R2 := fun y x H Q => ∃ a o, x = .ref a ∧ DGet H a y o ∧ Q (.bl o.isSome) H
abbrev rNotInK : R2 := fun y x H Q => ∃ a o, x = .ref a ∧ DGet H a y o ∧ Q (.bl (!o.isSome)) H
theorem op_inK {X : Cx} (hu : X.A.units + 1 < cLine) : OpR X (compareOp .In) rInK := by
  intro pins s σ H x y v u Q I rx ry h
  obtain ⟨a, o, rfl, g, q⟩ := h
  obtain rfl : u = Value.ref a := ry
  exact d_in hu I g rx fun s' I' => ⟨.bl _, H, I', rfl, q⟩
theorem op_notInK {X : Cx} (hu : X.A.units + 1 < cLine) : OpR X (compareOp .NotIn) rNotInK := by
  intro pins s σ H x y v u Q I rx ry h
  obtain ⟨a, o, rfl, g, q⟩ := h
  obtain rfl : u = Value.ref a := ry
  exact d_notIn hu I g rx fun s' I' => ⟨.bl _, H, I', rfl, q⟩
abbrev rInSg : R2 := fun x y H Q => ∃ (c : Nat) (z : Str), x = .str ⟨#[c]⟩ ∧ y = .str z ∧ Q (.bl (decide (c ∈ z.cps.toList))) H
abbrev rNotInSg : R2 := fun x y H Q => ∃ (c : Nat) (z : Str), x = .str ⟨#[c]⟩ ∧ y = .str z ∧ Q (.bl (!decide (c ∈ z.cps.toList))) H
abbrev rInA (K : PySem.W.Frag) : R2 := fun x y H Q => rInK x y H Q ∨ (fun x y H Q => rInSg x y H Q ∨ (fun x y H Q => rInD K x y H Q ∨ rIn K false x y H Q) x y H Q) x y H Q
abbrev rNotInA (K : PySem.W.Frag) : R2 := fun x y H Q => rNotInK x y H Q ∨ (fun x y H Q => rNotInSg x y H Q ∨ (fun x y H Q => rNotInD K x y H Q ∨ rIn K true x y H Q) x y H Q) x y H Q
theorem op_inA {X : Cx} (hu : X.A.units + 65 < cLine) : OpR X (compareOp .In) (rInA X.K) := (op_inK (by omega)).or (op_in_sign.or ((op_inD hu).or op_in_seq))
theorem op_notInA {X : Cx} (hu : X.A.units + 65 < cLine) : OpR X (compareOp .NotIn) (rNotInA X.K) := (op_notInK (by omega)).or (op_notIn_sign.or ((op_notInD hu).or op_notIn_seq))
/-- whether it is in -/
def inB (t u : T) : Option Bool := match u with
  | .f (.a (.str z)) => (match t with
    | .f (.a (.str x)) => (match x.cps.toList with
      | [c] => some (decide (c ∈ z.cps.toList))
      | _ => none)
    | _ => none)
  | u => (match kids u with
    | some (.dic ks, us) => (match keyT t with
      | some k => some (dget ks us k).isSome
      | none => none)
    | some (.lst, us) => if (shD (era t) && shD (.n .lst (eras us))) = true then some ((eras us).any fun e => eqD e (era t)) else none
    | some (.scr, us) => if (shD (era t) && shD (.n .lst (eras us))) = true then some ((eras us).any fun e => eqD e (era t)) else none
    | _ => none)
def inT (t u : T) : Option T := (inB t u).map T.b
def notInT (t u : T) : Option T := (inB t u).map fun b => T.b (!b)
theorem kids_era {u : T} {k : Kd} {us : List T} (e : kids u = some (k, us)) : era u = .n k (eras us) := by
  cases u with
  | f d =>
    cases d with
    | a x => cases e
    | n k' ds =>
      unfold kids at e
      cases e
      show D.n k ds = _
      rw [eras_f]
  | n m k' ts =>
    unfold kids at e
    cases e
    unfold era
    rfl
theorem any_toPy (d : D) : ∀ ds : List D, ((toPys ds).any fun z => PyData.eqv z (toPy d)) = ds.any fun e => eqD e d
  | [] => rfl
  | e :: ds => by
    show (PyData.eqv (toPy e) (toPy d) || (toPys ds).any _) = (eqD e d || ds.any _)
    rw [any_toPy d ds]
    rfl
theorem keyT_v {F L H : Hp} {t : T} {x : V} {A : Fp} {k : Key} (r : Rep K F L H t x A) (e : keyT t = some k) : x = kV k := by
  unfold keyT at e
  split at e
  · obtain ⟨rfl, _⟩ := r.flat
    exact keyF_v e
  · cases e
theorem in_some {F L H : Hp} {x y : V} {t1 t2 : T} {A1 A2 : Fp} {b : Bool} (sF : Same F H) (sL : Same L H) (r1 : Rep K F L H t1 x A1) (r2 : Rep K F L H t2 y A2) (e : inB t1 t2 = some b) :
    (∃ a o, y = .ref a ∧ DGet H a x o ∧ o.isSome = b) ∨ (∃ (c : Nat) (z : Str), x = .str ⟨#[c]⟩ ∧ y = .str z ∧ decide (c ∈ z.cps.toList) = b) ∨
      (∃ d ds, Dp K.K H x d ∧ Dp K.K H y (.list ds) ∧ SeqAt.shaped d = true ∧ SeqAt.shaped (.list ds) = true ∧ (ds.any fun z => PyData.eqv z d) = b) := by
  have seq : ∀ k us, kids t2 = some (k, us) → (toPy (era t2) = .list (toPys (eras us))) → (if (shD (era t1) && shD (.n .lst (eras us))) = true then some ((eras us).any fun e => eqD e (era t1)) else none) = some b →
      ∃ d ds, Dp K.K H x d ∧ Dp K.K H y (.list ds) ∧ SeqAt.shaped d = true ∧ SeqAt.shaped (.list ds) = true ∧ (ds.any fun z => PyData.eqv z d) = b := by
    intro k us ek et e
    split at e
    · rename_i c
      obtain ⟨c1, c2⟩ := Bool.and_eq_true_iff.mp c
      have c3 : SeqAt.shaped (.list (toPys (eras us))) = true := c2
      have q := Rep.dp sF sL t2 y A2 r2 (by rw [et]; exact shaped_can c3)
      rw [et] at q
      exact ⟨_, _, Rep.dp sF sL t1 x A1 r1 (shaped_can c1), q, c1, c3, by rw [any_toPy]; exact Option.some.inj e⟩
    · cases e
  unfold inB at e
  split at e
  · rename_i z
    split at e
    · rename_i w
      split at e
      · rename_i c hc
        cases e
        obtain ⟨rfl, _⟩ := r1.flat
        obtain ⟨rfl, _⟩ := r2.flat
        refine .inr (.inl ⟨c, z, ?_, rfl, rfl⟩)
        have : w = ⟨#[c]⟩ := by
          obtain ⟨a⟩ := w
          exact congrArg Str.mk (Array.ext' hc)
        rw [this]
        rfl
      · cases e
    · cases e
  · split at e
    · rename_i ks us ek
      split at e
      · rename_i k hk
        cases e
        obtain ⟨p, vs, B, rfl, o, _, r⟩ := Rep.kids r2 ek sF sL
        obtain ⟨hl, rd⟩ := o
        have hx := keyT_v r1 hk
        refine .inl ⟨p, dget ks vs k, rfl, .inl ⟨ks.zip vs, k, rd, hx, (dget_val hl).symm⟩, ?_⟩
        have q := Reps.dget (q := k) r hl
        cases z : dget ks us k with
        | none =>
          rw [q.2 z]
          rfl
        | some t =>
          obtain ⟨v, _, h1, _⟩ := q.1 t z
          rw [h1]
          rfl
      · cases e
    · rename_i us ek
      exact .inr (.inr (seq _ us ek (by rw [kids_era ek]; rfl) e))
    · rename_i us ek
      exact .inr (.inr (seq _ us ek (by rw [kids_era ek]; rfl) e))
    · cases e
theorem o2_in : Op2 K (rInA K.K) inT := Op2.flat fun F L H x y t1 t2 t A1 A2 sF sL r1 r2 e => by
  unfold inT at e
  cases eb : inB t1 t2 with
  | none =>
    rw [eb] at e
    cases e
  | some b =>
    rw [eb] at e
    cases e
    refine ⟨_, rfl, fun Q q => ?_⟩
    rcases in_some sF sL r1 r2 eb with ⟨a, o, h1, h2, h3⟩ | ⟨c, z, h1, h2, h3⟩ | ⟨d, ds, h1, h2, h3, h4, h5⟩
    · exact .inl ⟨a, o, h1, h2, by rw [h3]; exact q⟩
    · exact .inr (.inl ⟨c, z, h1, h2, by rw [h3]; exact q⟩)
    · exact .inr (.inr (.inl ⟨d, ds, h1, h2, h3, h4, by rw [h5]; exact q⟩))
theorem o2_notIn : Op2 K (rNotInA K.K) notInT := Op2.flat fun F L H x y t1 t2 t A1 A2 sF sL r1 r2 e => by
  unfold notInT at e
  cases eb : inB t1 t2 with
  | none =>
    rw [eb] at e
    cases e
  | some b =>
    rw [eb] at e
    cases e
    refine ⟨_, rfl, fun Q q => ?_⟩
    rcases in_some sF sL r1 r2 eb with ⟨a, o, h1, h2, h3⟩ | ⟨c, z, h1, h2, h3⟩ | ⟨d, ds, h1, h2, h3, h4, h5⟩
    · exact .inl ⟨a, o, h1, h2, by rw [h3]; exact q⟩
    · exact .inr (.inl ⟨c, z, h1, h2, by rw [h3]; exact q⟩)
    · exact .inr (.inr (.inl ⟨d, ds, h1, h2, h3, h4, by rw [h5]; exact q⟩))

/-! ### a[i] -/
def atT (ts : List T) : T → Option T
  | .f (.a (.int i)) => atI ts i
  | _ => none
def idxT (t u : T) : Option T := match t with
  | .f (.a (.str z)) => (match u with
    | .f (.a (.int i)) => if z.length ≤ LINE then (atI z.cps.toList i).map fun c => T.s ⟨#[c]⟩ else none
    | _ => none)
  | t => (match kids t with
    | some (.dic ks, us) => (match keyT u with
      | some k => dget ks us k
      | none => none)
    | some (.lst, us) => atT us u
    | some (.scr, us) => atT us u
    | some (.tup, us) => atT us u
    | _ => none)
abbrev rDG : R2 := fun x y H Q => ∃ a v, x = .ref a ∧ DGet H a y (some v) ∧ Q v H
theorem ix_dict {X : Cx} (hu : X.A.units + 1 < cLine) : IxR X rDG := by
  intro value slice pins s σ H x y v u Q I rx ry h hs
  obtain ⟨a, w, rfl, g, q⟩ := h
  obtain rfl : v = Value.ref a := rx
  exact PyProof.Rows.tail_any (dict_typeIs I g) PySem.F.slot_dict_getitem.lookup (d_getItem hu I g ry fun w' s' I' r => ⟨w, H, I', r, q⟩) hs
abbrev rIxA (K : PySem.W.Frag) : R2 := fun x y H Q => rDG x y H Q ∨ rIx K x y H Q
theorem ix_any {X : Cx} (hu : X.A.units + 1 < cLine) : IxR X (rIxA X.K) := (ix_dict hu).or ix_seq
theorem atI_reps {F L H : Hp} {ts : List T} {vs : List V} {A : Fp} {i : Int} {t : T} (r : Reps K F L H ts vs A) (e : atI ts i = some t) : ∃ v B, atI vs i = some v ∧ Rep K F L H t v B ∧ ∀ a, B a → A a := by
  unfold atI at e ⊢
  rw [Reps.length r] at e
  cases z : ixN vs.length i with
  | none =>
    rw [z] at e
    cases e
  | some j =>
    rw [z] at e
    exact Reps.get r (show ts[j]? = some t from e)
/-- a value handed on as it is -/
def Op2.part {r : R2} {φ : T → T → Option T} (h : ∀ (F L H : Hp) (x y : V) (t1 t2 t : T) (A1 A2 : Fp), Same F H → Same L H → Rep K F L H t1 x A1 → Rep K F L H t2 y A2 → φ t1 t2 = some t →
    ∃ v B, Rep K F L H t v B ∧ (∀ a, B a → A1 a) ∧ ∀ Q : VK, Q v H → r x y H Q) : Op2 K r φ := by
  intro F L H x y t1 t2 t A1 A2 Q sF sL r1 r2 _ e q
  obtain ⟨v, B, h1, h2, h3⟩ := h F L H x y t1 t2 t A1 A2 sF sL r1 r2 e
  exact h3 Q (q v H B (Same.refl H) h1 fun a z => .inl (h2 a z))
theorem o2_idx : Op2 K (rIxA K.K) idxT := Op2.part fun F L H x y t1 t2 t A1 A2 sF sL r1 r2 e => by
  have seq : ∀ k us, kids t1 = some (k, us) → (∀ p vs, Ob K H p k vs → SqL K.K H p vs ∨ SqT K.K H p vs) → atT us t2 = some t → ∃ v B, Rep K F L H t v B ∧ (∀ a, B a → A1 a) ∧ ∀ Q : VK, Q v H → rIxA K.K x y H Q := by
    intro k us ek hk e
    obtain ⟨p, vs, B, rfl, o, i, r⟩ := Rep.kids r1 ek sF sL
    unfold atT at e
    split at e
    · obtain ⟨rfl, _⟩ := r2.flat
      obtain ⟨v, B', h1, h2, h3⟩ := atI_reps r e
      refine ⟨v, B', h2, fun a z => i a (h3 a z), fun Q q => ?_⟩
      rcases hk p vs o with o | o
      · exact .inr (.inl ⟨p, vs, _, v, rfl, rfl, o, h1, q⟩)
      · exact .inr (.inr (.inl ⟨p, vs, _, v, rfl, rfl, o, h1, q⟩))
    · cases e
  unfold idxT at e
  split at e
  · rename_i z
    split at e
    · rename_i i
      split at e
      · rename_i hl
        cases ec : atI z.cps.toList i with
        | none =>
          rw [ec] at e
          cases e
        | some c =>
          rw [ec] at e
          cases e
          obtain ⟨rfl, _⟩ := r1.flat
          obtain ⟨rfl, _⟩ := r2.flat
          exact ⟨_, fe, Rep.of_flat, fun _ z => z.elim, fun Q q => .inr (.inr (.inr ⟨z, i, c, rfl, rfl, line_le hl, ec, q⟩))⟩
      · cases e
    · cases e
  · split at e
    · rename_i ks us ek
      split at e
      · rename_i k hk
        obtain ⟨p, vs, B, rfl, o, i, r⟩ := Rep.kids r1 ek sF sL
        obtain ⟨hl, rd⟩ := o
        obtain ⟨v, B', h1, h2, h3⟩ := (Reps.dget (q := k) r hl).1 t e
        exact ⟨v, B', h2, fun a z => i a (h3 a z), fun Q q => .inl ⟨p, v, rfl, .inl ⟨ks.zip vs, k, rd, keyT_v r2 hk, by rw [dget_val hl, h1]⟩, q⟩⟩
      · cases e
    · rename_i us ek
      exact seq _ us ek (fun p vs o => .inl (SqL.of o)) e
    · rename_i us ek
      exact seq _ us ek (fun p vs o => .inl o) e
    · rename_i us ek
      exact seq _ us ek (fun p vs o => .inr o) e
    · cases e
end DT
/-! Data trees, part 5: names, constants, tests, displays, calls. -/
namespace DT
open PySem L2
variable {K : Gx}

/-! ### the context of a body -/
structure Cxt (k : Nat) (X : Cx) (W : Wt) : Prop where
  cal : X.calm = true
  room : Room k X.A
  nd : X.N.Nodup
  tk : L2N.Takes X W.w
  pn : ∀ q ∈ W.p, q ∈ X.pn
theorem Cxt.hu {k : Nat} {X : Cx} {W : Wt} (C : Cxt k X W) : X.A.units + 65 < cLine := by
  have := C.room.un
  omega

/-! ### names and constants -/
def vC (d : D) : En → Rv := fun _ => .ok (.f d)
def vVar (i : Nat) : En → Rv := fun en => match en[i]? with
  | some (some t) => .ok (lock t)
  | _ => .no
section
variable {X : Cx} {W : Wt} {e a b c : Expr} {pos : Pos} {g g1 g2 g3 : En → Rv} {k : Nat}
theorem VE.flat {x : Fl} (h : PE X e (tC x.v)) : VE X W (vC (.a x)) e := pe_imp h fun σ H Q q => by
  obtain ⟨F, L, A, en, S, q⟩ := q
  exact q x.v F H fe (Pur.refl S.sF) Rep.of_flat (fun _ z => z.elim) fun _ z => z.elim
theorem VE.int {i : Int} {j : Nat} : VE X W (vC (.a (.int i))) (.Constant (.int i) j pos) := VE.flat pe_int
theorem VE.bl {i : Bool} {j : Nat} : VE X W (vC (.a (.bl i))) (.Constant (.bool i) j pos) := VE.flat pe_bl
theorem VE.non {j : Nat} : VE X W (vC (.a .non)) (.Constant .none j pos) := VE.flat pe_non
theorem VE.str {i : Str} {j : Nat} : VE X W (vC (.a (.str i))) (.Constant (.str i) j pos) := VE.flat pe_str
/-- a written object -/
theorem VE.glo {d : D} {v : V} (h : PE X e (tC v)) (r : ∀ F, RepD (gx X W) F d v) : VE X W (vC d) e := pe_imp h fun σ H Q q => by
  obtain ⟨F, L, A, en, S, q⟩ := q
  exact q v F H fe (Pur.refl S.sF) (by unfold Rep; exact ⟨rfl, r F⟩) (fun _ z => z.elim) fun _ z => z.elim
theorem VE.of_var (i : Nat) (h : PE X e (tVar i)) : VE X W (vVar i) e := pe_imp h fun σ H Q q => by
  obtain ⟨F, L, A, en, S, q⟩ := q
  unfold vVar at q
  cases e1 : en[i]? with
  | none =>
    rw [e1] at q
    exact q.elim
  | some o =>
    cases o with
    | none =>
      rw [e1] at q
      exact q.elim
    | some t =>
      rw [e1] at q
      obtain ⟨o, Ai, Ar, h1, h2, rfl, h4, h5, h6⟩ := Slots.focus S.sl e1
      cases o with
      | none => exact h2.elim
      | some v =>
        refine ⟨v, h1, q v F H fe (Pur.refl S.sF) ?_ (fun _ z => z.elim) fun _ z => z.elim⟩
        exact Rep.lock (Le.of (vw_le S.nL)) t v Ai (fun p z => vw_in (.inl z)) h2
theorem VE.var (i : Nat) {x : Str} (hN : X.N[i]? = some x := by rfl) (hv : Vis X.env.scope x := by first | exact Or.inl rfl | exact Or.inr (Or.inl rfl) | exact Or.inr (Or.inr rfl)) (hd : (x == ("__debug__" : Str)) = false := by decide)
    (hcd : (x == ("__classdict__" : Str)) = false := by decide) : VE X W (vVar i) (.Name x pos) := VE.of_var i (pe_var hN hv hd hcd)

/-! ### tests -/
inductive Rb where
  | ok (b : Bool) | ex (x : Ex) | no
def toB : Rv → Rb
  | .ok (.f (.a (.bl b))) => .ok b
  | .ex x => .ex x
  | _ => .no
def ofB : Rb → Rv
  | .ok b => .ok (.b b)
  | .ex x => .ex x
  | .no => .no
def tT (K : Gx) (g : En → Rb) (W : WX) : TT := fun σ H Q => ∃ F L A en, Stk K F L H σ en A ∧ match g en with
  | .ok b => ∀ F' H', Pur F H F' H' → Q b H'
  | .ex x => ∀ cls d F' H', Pur F H F' H' → ExRep K F' cls d x → W cls d σ H'
  | .no => False
abbrev VT (X : Cx) (W : Wt) (g : En → Rb) (e : Expr) : Prop := PT X e (tT (gx X W) g W.w)
abbrev WT (X : Cx) (W : Wt) (g : En → Rb) (e : Expr) : Prop := PW X e (tT (gx X W) g W.w)
theorem toB_ok {r : Rv} {b : Bool} (h : toB r = .ok b) : r = .ok (.b b) := by
  unfold toB at h
  split at h
  · cases h
    rfl
  · cases h
  · cases h
theorem toB_ex {r : Rv} {x : Ex} (h : toB r = .ex x) : r = .ex x := by
  unfold toB at h
  split at h
  · cases h
  · cases h
    rfl
  · cases h
def vB (g : En → Rv) : En → Rb := fun en => toB (g en)
def bV (g : En → Rb) : En → Rv := fun en => ofB (g en)
theorem tT_tV {W : WX} {σ : L2.St} {H : Hp} {Q : Bool → Hp → Prop} (q : tT K (vB g) W σ H Q) : tV K g W σ H fun x H' => ∃ k, x = .bl k ∧ Q k H' := by
  obtain ⟨F, L, A, en, S, q⟩ := q
  refine ⟨F, L, A, en, S, ?_⟩
  unfold vB at q
  cases e : toB (g en) with
  | ok b =>
    rw [e] at q
    rw [toB_ok e]
    intro v F' H' B p r _ _
    obtain ⟨rfl, _⟩ := r.flat
    exact ⟨b, rfl, q F' H' p⟩
  | ex x =>
    rw [e] at q
    rw [toB_ex e]
    exact q
  | no =>
    rw [e] at q
    exact q.elim
theorem VT.val (h : VE X W g e) (he : ∀ whole, isTrue e X.env whole = (do let v ← whole; standAt e.pos; holding [v] (truthy v)) := by intro _; rfl) : VT X W (vB g) e :=
  pt_imp (pt_val h he) fun σ H Q q => tT_tV q
theorem VT.cmp {op : CmpOp} {r : R2} {φ : T → T → Option T} (ho : OpR X (compareOp op) r) (hφ : Op2 (gx X W) r φ) (ha : VE X W g1 a) (hb : VE X W g2 b) (hm : behindInMarks op b = false) : VT X W (vB (v2 φ g1 g2)) (.Compare a [op] [b] pos) :=
  pt_imp (pt_cmpR ho ha hb hm) fun σ H Q q => v2_ok hφ (tT_tV q)
def bNot (g : En → Rb) : En → Rb := fun en => match g en with
  | .ok b => .ok (!b)
  | r => r
def bAnd (g1 g2 : En → Rb) : En → Rb := fun en => match g1 en with
  | .ok true => g2 en
  | r => r
def bOr (g1 g2 : En → Rb) : En → Rb := fun en => match g1 en with
  | .ok false => g2 en
  | r => r
variable {p1 p2 : En → Rb}
theorem VT.not (h : VT X W p1 a) : VT X W (bNot p1) (.UnaryOp .Not a pos) := pt_imp (pt_not h) fun σ H Q q => by
  obtain ⟨F, L, A, en, S, q⟩ := q
  refine ⟨F, L, A, en, S, ?_⟩
  unfold bNot at q
  cases e : p1 en with
  | ok b =>
    rw [e] at q
    exact q
  | ex x =>
    rw [e] at q
    exact q
  | no =>
    rw [e] at q
    exact q
theorem tT_and {W : WX} {σ : L2.St} {H : Hp} {Q : Bool → Hp → Prop} (q : tT K (bAnd p1 p2) W σ H Q) : tAnd (tT K p1 W) (tT K p2 W) σ H Q := by
  obtain ⟨F, L, A, en, S, q⟩ := q
  refine ⟨F, L, A, en, S, ?_⟩
  unfold bAnd at q
  cases e : p1 en with
  | ok b =>
    rw [e] at q
    intro F1 H1 p
    cases b with
    | false =>
      rw [if_neg Bool.false_ne_true]
      exact q F1 H1 p
    | true =>
      rw [if_pos rfl]
      refine ⟨F1, L, A, en, S.pur p, ?_⟩
      dsimp only at q
      cases e2 : p2 en with
      | ok b =>
        rw [e2] at q
        exact fun F2 H2 p2 => q F2 H2 (p.trans p2)
      | ex x =>
        rw [e2] at q
        exact fun cls d F2 H2 p2 er => q cls d F2 H2 (p.trans p2) er
      | no =>
        rw [e2] at q
        exact q
  | ex x =>
    rw [e] at q
    exact q
  | no =>
    rw [e] at q
    exact q
theorem tT_or {W : WX} {σ : L2.St} {H : Hp} {Q : Bool → Hp → Prop} (q : tT K (bOr p1 p2) W σ H Q) : tOr (tT K p1 W) (tT K p2 W) σ H Q := by
  obtain ⟨F, L, A, en, S, q⟩ := q
  refine ⟨F, L, A, en, S, ?_⟩
  unfold bOr at q
  cases e : p1 en with
  | ok b =>
    rw [e] at q
    intro F1 H1 p
    cases b with
    | true =>
      rw [if_pos rfl]
      exact q F1 H1 p
    | false =>
      rw [if_neg Bool.false_ne_true]
      refine ⟨F1, L, A, en, S.pur p, ?_⟩
      dsimp only at q
      cases e2 : p2 en with
      | ok b =>
        rw [e2] at q
        exact fun F2 H2 p2 => q F2 H2 (p.trans p2)
      | ex x =>
        rw [e2] at q
        exact fun cls d F2 H2 p2 er => q cls d F2 H2 (p.trans p2) er
      | no =>
        rw [e2] at q
        exact q
  | ex x =>
    rw [e] at q
    exact q
  | no =>
    rw [e] at q
    exact q
theorem WT.and1 (h : VT X W p1 a) : WT X W p1 (.BoolOp .And [a] pos) := pw_and1 h
theorem WT.or1 (h : VT X W p1 a) : WT X W p1 (.BoolOp .Or [a] pos) := pw_or1 h
theorem PW_imp {X : Cx} {e : Expr} {t t' : TT} (h : PW X e t) (i : ∀ σ H Q, t' σ H Q → t σ H Q) : PW X e t' := ⟨fun whole pins s σ H Q I q => h.run whole pins s σ H Q I (i σ H Q q)⟩
theorem WT.and {rest : List Expr} (h : VT X W p1 a) (h2 : WT X W p2 (.BoolOp .And (b :: rest) pos)) : WT X W (bAnd p1 p2) (.BoolOp .And (a :: b :: rest) pos) := PW_imp (pw_and h h2) fun σ H Q q => tT_and q
theorem WT.or {rest : List Expr} (h : VT X W p1 a) (h2 : WT X W p2 (.BoolOp .Or (b :: rest) pos)) : WT X W (bOr p1 p2) (.BoolOp .Or (a :: b :: rest) pos) := PW_imp (pw_or h h2) fun σ H Q q => tT_or q
theorem WT.t (h : WT X W p1 a) : VT X W p1 a := PW.pt h

/-! ### not, and, or as values -/
theorem tB_tV {W : WX} {σ : L2.St} {H : Hp} {Q : VK} {g : En → Rb} (q : tV K (bV g) W σ H Q) : tT K g W σ H fun b H' => Q (.bl b) H' := by
  obtain ⟨F, L, A, en, S, q⟩ := q
  refine ⟨F, L, A, en, S, ?_⟩
  unfold bV ofB at q
  cases e : g en with
  | ok b =>
    rw [e] at q
    exact fun F' H' p => q _ F' H' fe p Rep.of_flat (fun _ z => z.elim) fun _ z => z.elim
  | ex x =>
    rw [e] at q
    exact q
  | no =>
    rw [e] at q
    exact q
/-- what is a test: a value that is True or False -/
theorem tV_B {W : WX} {σ : L2.St} {H : Hp} {Q : Bool → Hp → Prop} {g : En → Rv} (q : tT K (vB g) W σ H Q) : tV K g W σ H fun x H' => ∃ c, x = .bl c ∧ Q c H' := tT_tV q
theorem VE.not (h : VE X W g a) : VE X W (bV (bNot (vB g))) (.UnaryOp .Not a pos) := pe_imp (pe_not h) fun σ H Q q => by
  have q := tB_tV q
  obtain ⟨F, L, A, en, S, q⟩ := q
  refine tT_tV (Q := fun c H' => Q (.bl (!c)) H') ⟨F, L, A, en, S, ?_⟩
  unfold bNot at q
  cases e : vB g en with
  | ok b =>
    rw [e] at q
    exact q
  | ex x =>
    rw [e] at q
    exact q
  | no =>
    rw [e] at q
    exact q
/-- a and b, the first True or False -/
def vAnd (p : En → Rb) (g : En → Rv) : En → Rv := fun en => match p en with
  | .ok true => g en
  | .ok false => .ok (.b false)
  | .ex x => .ex x
  | .no => .no
def vOr (p : En → Rb) (g : En → Rv) : En → Rv := fun en => match p en with
  | .ok true => .ok (.b true)
  | .ok false => g en
  | .ex x => .ex x
  | .no => .no
def vIf (p : En → Rb) (g1 g2 : En → Rv) : En → Rv := fun en => match p en with
  | .ok true => g1 en
  | .ok false => g2 en
  | .ex x => .ex x
  | .no => .no
theorem tV_pur {W : WX} {σ : L2.St} {F L H : Hp} {A : Fp} {en : En} {Q : VK} {F1 H1 : Hp} (S : Stk K F L H σ en A) (p : Pur F H F1 H1) (q : match g en with
    | .ok t => ∀ v F' H' B, Pur F H F' H' → Rep K F' (vw L H' A) H' t v B → (∀ p, B p → H p = none) → (∀ p, B p → F' p = none) → Q v H'
    | .ex x => ∀ cls d F' H', Pur F H F' H' → ExRep K F' cls d x → W cls d σ H'
    | .no => False) : tV K g W σ H1 Q := by
  refine ⟨F1, L, A, en, S.pur p, ?_⟩
  cases e : g en with
  | ok t =>
    rw [e] at q
    exact fun v F' H' B p2 r b c => q v F' H' B (p.trans p2) r (fun a z => p.h.free (b a z)) c
  | ex x =>
    rw [e] at q
    exact fun cls d F' H' p2 er => q cls d F' H' (p.trans p2) er
  | no =>
    rw [e] at q
    exact q
theorem VE.and {rest : List Expr} (h : VE X W g1 a) (h2 : VE X W g2 (.BoolOp .And (b :: rest) pos)) : VE X W (vAnd (vB g1) g2) (.BoolOp .And (a :: b :: rest) pos) := pe_imp (pe_and h h2) fun σ H Q q => by
  obtain ⟨F, L, A, en, S, q⟩ := q
  refine tT_tV (Q := fun c H' => if c = true then tV (gx X W) g2 W.w σ H' Q else Q (.bl false) H') ⟨F, L, A, en, S, ?_⟩
  unfold vAnd at q
  cases e : vB g1 en with
  | ok b =>
    rw [e] at q
    intro F1 H1 p
    cases b with
    | true =>
      rw [if_pos rfl]
      exact tV_pur S p q
    | false =>
      rw [if_neg Bool.false_ne_true]
      exact q _ F1 H1 fe p Rep.of_flat (fun _ z => z.elim) fun _ z => z.elim
  | ex x =>
    rw [e] at q
    exact q
  | no =>
    rw [e] at q
    exact q
theorem VE.or {rest : List Expr} (h : VE X W g1 a) (h2 : VE X W g2 (.BoolOp .Or (b :: rest) pos)) : VE X W (vOr (vB g1) g2) (.BoolOp .Or (a :: b :: rest) pos) := pe_imp (pe_or h h2) fun σ H Q q => by
  obtain ⟨F, L, A, en, S, q⟩ := q
  refine tT_tV (Q := fun c H' => if c = true then Q (.bl true) H' else tV (gx X W) g2 W.w σ H' Q) ⟨F, L, A, en, S, ?_⟩
  unfold vOr at q
  cases e : vB g1 en with
  | ok b =>
    rw [e] at q
    intro F1 H1 p
    cases b with
    | false =>
      rw [if_neg Bool.false_ne_true]
      exact tV_pur S p q
    | true =>
      rw [if_pos rfl]
      exact q _ F1 H1 fe p Rep.of_flat (fun _ z => z.elim) fun _ z => z.elim
  | ex x =>
    rw [e] at q
    exact q
  | no =>
    rw [e] at q
    exact q
theorem VE.one {op} (h : VE X W g a) : VE X W g (.BoolOp op [a] pos) := pe_one h
theorem VE.ifx (h : VT X W p1 c) (h1 : VE X W g1 a) (h2 : VE X W g2 b) : VE X W (vIf p1 g1 g2) (.IfExp c a b pos) := pe_imp (pe_ifExp h h1 h2) fun σ H Q q => by
  obtain ⟨F, L, A, en, S, q⟩ := q
  refine ⟨F, L, A, en, S, ?_⟩
  unfold vIf at q
  cases e : p1 en with
  | ok b =>
    rw [e] at q
    intro F1 H1 p
    cases b with
    | true =>
      rw [if_pos rfl]
      exact tV_pur S p q
    | false =>
      rw [if_neg Bool.false_ne_true]
      exact tV_pur S p q
  | ex x =>
    rw [e] at q
    exact q
  | no =>
    rw [e] at q
    exact q
end
/-! ### an operator on one value -/
abbrev R1 := V → Hp → VK → Prop
def Op1 (K : Gx) (r : R1) (φ : T → Option T) : Prop := ∀ (F L H : Hp) (x : V) (t1 t : T) (A1 : Fp) (Q : VK), Same F H → Same L H → Rep K F L H t1 x A1 → φ t1 = some t →
  (∀ v H' B, Same H H' → Rep K F L H' t v B → (∀ p, B p → A1 p ∨ H p = none) → Q v H') → r x H Q
def v1 (φ : T → Option T) (g : En → Rv) : En → Rv := fun en => match g en with
  | .ok t1 => (match φ t1 with
    | some t => .ok t
    | none => .no)
  | r => r
theorem v1_ok {r : R1} {φ : T → Option T} {g : En → Rv} {W : WX} (hφ : Op1 K r φ) {σ : L2.St} {H : Hp} {Q : VK} (q : tV K (v1 φ g) W σ H Q) : tV K g W σ H fun x H1 => r x H1 Q := by
  obtain ⟨F, L, A, en, S, q⟩ := q
  refine ⟨F, L, A, en, S, ?_⟩
  unfold v1 at q
  cases e1 : g en with
  | no =>
    rw [e1] at q
    exact q
  | ex x =>
    rw [e1] at q
    exact q
  | ok t1 =>
    rw [e1] at q
    intro v1 F1 H1 B1 p1 r1 b1 c1
    dsimp only at q
    cases e3 : φ t1 with
    | none =>
      rw [e3] at q
      exact q.elim
    | some t =>
      rw [e3] at q
      have S1 := S.pur p1
      refine hφ F1 (vw L H1 A) H1 v1 t1 t B1 Q S1.sF (vw_same S1.sL) r1 e3 fun v H' B sm rp hb => ?_
      refine q v F1 H' B (p1.trans (Pur.new S1.sF sm)) (Rep.keep (Le.refl _) (Le.of (vw_mono sm)) t v B (fun _ _ => rfl) rp) (fun a z => ?_) (fun a z => ?_)
      · rcases hb a z with y | y
        · exact b1 a y
        · exact p1.h.free y
      · rcases hb a z with y | y
        · exact c1 a y
        · exact S1.sF.free y
theorem Op1.flat {r : R1} {φ : T → Option T} (h : ∀ (F L H : Hp) (x : V) (t1 t : T) (A1 : Fp), Same F H → Same L H → Rep K F L H t1 x A1 → φ t1 = some t → ∃ z : Fl, t = .f (.a z) ∧ ∀ Q : VK, Q z.v H → r x H Q) : Op1 K r φ := by
  intro F L H x t1 t A1 Q sF sL r1 e q
  obtain ⟨z, rfl, k⟩ := h F L H x t1 t A1 sF sL r1 e
  exact k Q (q z.v H fe (Same.refl H) Rep.of_flat fun _ z => z.elim)
def negT : T → Option T
  | .f (.a (.int i)) => some (.i (-i))
  | _ => none
theorem o1_neg : Op1 K (rU fun i => .int (-i)) negT := Op1.flat fun F L H x t1 t A1 _ _ r1 e => by
  unfold negT at e
  split at e
  · cases e
    obtain ⟨rfl, _⟩ := r1.flat
    exact ⟨_, rfl, fun Q q => ⟨_, rfl, q⟩⟩
  · cases e
section
variable {X : Cx} {W : Wt} {e a b c : Expr} {pos : Pos} {g g1 g2 g3 : En → Rv}
theorem VE.neg (h : VE X W g a) : VE X W (v1 negT g) (.UnaryOp .USub a pos) := pe_imp (pe_un un_neg h) fun σ H Q q => v1_ok o1_neg q
end

/-! ### argument lists -/
inductive Rvs where
  | ok (ts : List T) | ex (x : Ex) | no
def tVA (K : Gx) (g : En → Rvs) (W : WX) : TA := fun σ H Q => ∃ F L A en, Stk K F L H σ en A ∧ match g en with
  | .ok ts => ∀ vs F' H' B, Pur F H F' H' → Reps K F' (vw L H' A) H' ts vs B → (∀ p, B p → H p = none) → (∀ p, B p → F' p = none) → Q vs H'
  | .ex x => ∀ cls d F' H', Pur F H F' H' → ExRep K F' cls d x → W cls d σ H'
  | .no => False
structure AE (X : Cx) (W : Wt) (g : En → Rvs) (es : List Expr) : Prop where
  pa : PA X es (tVA (gx X W) g W.w)
  len : ∀ en ts, g en = .ok ts → ts.length = es.length
def aNil : En → Rvs := fun _ => .ok []
def aCons (g : En → Rv) (gs : En → Rvs) : En → Rvs := fun en => match g en with
  | .ok t => (match gs en with
    | .ok ts => .ok (t :: ts)
    | r => r)
  | .ex x => .ex x
  | .no => .no
section
variable {X : Cx} {W : Wt} {e a b c : Expr} {es : List Expr} {pos : Pos} {g g1 g2 g3 : En → Rv} {gs : En → Rvs}
theorem AE.nil : AE X W aNil [] := ⟨pa_imp pa_nil fun σ H Q q => by
  obtain ⟨F, L, A, en, S, q⟩ := q
  exact q [] F H fe (Pur.refl S.sF) Reps.nil (fun _ z => z.elim) fun _ z => z.elim, fun en ts h => by cases h; rfl⟩
theorem AE.cons (h : VE X W g e) (hs : AE X W gs es) (hst : starEach (e :: es) X.env = (false, eval e X.env) :: starEach es X.env := by rfl) : AE X W (aCons g gs) (e :: es) := ⟨pa_imp (pa_cons h hs.pa hst) fun σ H Q q => by
  obtain ⟨F, L, A, en, S, q⟩ := q
  refine ⟨F, L, A, en, S, ?_⟩
  unfold aCons at q
  cases e1 : g en with
  | no =>
    rw [e1] at q
    exact q
  | ex x =>
    rw [e1] at q
    exact q
  | ok t =>
    rw [e1] at q
    intro v F1 H1 B1 p1 r1 b1 c1
    refine ⟨F1, L, A, en, S.pur p1, ?_⟩
    dsimp only at q
    cases e2 : gs en with
    | no =>
      rw [e2] at q
      exact q
    | ex x =>
      rw [e2] at q
      exact fun cls d F2 H2 p2 er => q cls d F2 H2 (p1.trans p2) er
    | ok ts =>
      rw [e2] at q
      intro vs F2 H2 B2 p2 r2 b2 c2
      have d1 := Rep.dom _ _ _ r1
      have r1' := Rep.keep (Le.of p2.f) (Le.of (vw_mono p2.h)) t v B1 (fun a z => Same.eq p2.h (d1 a z)) r1
      refine q (v :: vs) F2 H2 (fu B1 B2) (p1.trans p2) ?_ (fun a z => ?_) (fun a z => ?_)
      · unfold Reps
        exact ⟨v, vs, B1, B2, rfl, rfl, fun a z y => d1 a z (b2 a y), r1', r2⟩
      · rcases z with z | z
        · exact b1 a z
        · exact p1.h.free (b2 a z)
      · rcases z with z | z
        · by_cases w : F2 a = none
          · exact w
          · exact absurd (p2.g a (c1 a z) w) (d1 a z)
        · exact c2 a z, fun en ts h => by
  unfold aCons at h
  cases e1 : g en with
  | no =>
    rw [e1] at h
    cases h
  | ex x =>
    rw [e1] at h
    cases h
  | ok t =>
    rw [e1] at h
    cases e2 : gs en with
    | no =>
      rw [e2] at h
      cases h
    | ex x =>
      rw [e2] at h
      cases h
    | ok us =>
      rw [e2] at h
      cases h
      show us.length + 1 = es.length + 1
      rw [hs.len en us e2]⟩

/-! ### displays -/
def vLst (gs : En → Rvs) : En → Rv := fun en => match gs en with
  | .ok ts => .ok (.n .ow .lst ts)
  | .ex x => .ex x
  | .no => .no
theorem VE.lst (h : AE X W gs es) (hl : es.length ≤ LINE := by decide) : VE X W (vLst gs) (.List es pos) := pe_imp (pe_lst h.pa) fun σ H Q q => by
  obtain ⟨F, L, A, en, S, q⟩ := q
  refine ⟨F, L, A, en, S, ?_⟩
  unfold vLst at q
  cases e1 : gs en with
  | no =>
    rw [e1] at q
    exact q
  | ex x =>
    rw [e1] at q
    exact q
  | ok ts =>
    rw [e1] at q
    intro vs F1 H1 B1 p1 r1 b1 c1
    have hn : vs.length ≤ sizeLine := by
      rw [← Reps.length r1, h.len en ts e1]
      exact line_le hl
    refine ⟨hn, fun p hp => ?_⟩
    have S1 := S.pur p1
    obtain ⟨h1, h2⟩ := Rep.node (k := .lst) (o := .lst vs) r1 hp (vw_same S1.sL) S1.sF upd_same
    refine q _ F1 _ _ (p1.trans (Pur.new S1.sF h2)) (Rep.keep (Le.refl _) (Le.of (vw_mono h2)) _ _ _ (fun _ _ => rfl) h1) (fun a z => ?_) (fun a z => ?_)
    · rcases z with z | z
      · obtain rfl : a = p := z
        exact p1.h.free hp
      · exact b1 a z
    · rcases z with z | z
      · obtain rfl : a = p := z
        exact S1.sF.free hp
      · exact c1 a z
/-- all parts frozen -/
def allF : List T → Option (List D)
  | [] => some []
  | .f d :: ts => (allF ts).map (d :: ·)
  | .n _ _ _ :: _ => none
theorem allF_map : ∀ ds : List D, allF (ds.map T.f) = some ds
  | [] => rfl
  | d :: ds => by
    show (allF (ds.map T.f)).map (d :: ·) = _
    rw [allF_map ds]
    rfl
theorem allF_reps {F L H : Hp} : ∀ {ts : List T} {ds : List D} {vs : List V} {A : Fp}, allF ts = some ds → Reps K F L H ts vs A → RepDs K F ds vs ∧ A = fe
  | [], ds, vs, A, e, h => by
    cases e
    unfold Reps at h
    unfold RepDs
    exact h
  | .f d :: ts, ds, vs, A, e, h => by
    unfold allF at e
    cases q : allF ts with
    | none =>
      rw [q] at e
      cases e
    | some es =>
      rw [q] at e
      cases e
      unfold Reps Rep at h
      obtain ⟨v, ws, A1, A2, rfl, rfl, _, ⟨rfl, b⟩, c⟩ := h
      obtain ⟨h1, h2⟩ := allF_reps q c
      subst h2
      unfold RepDs
      exact ⟨⟨v, ws, rfl, b, h1⟩, fu_e⟩
  | .n _ _ _ :: _, ds, vs, A, e, h => by cases e
/-- a tuple of frozen parts is frozen -/
def mkTup (ts : List T) : T := match allF ts with
  | some ds => .f (.n .tup ds)
  | none => .n .ow .tup ts
def vTup (gs : En → Rvs) : En → Rv := fun en => match gs en with
  | .ok ts => .ok (mkTup ts)
  | .ex x => .ex x
  | .no => .no
theorem VE.tup {x1} (h : AE X W gs es) (hl : es.length ≤ LINE := by decide) : VE X W (vTup gs) (.Tuple es x1 pos) := pe_imp (pe_tup h.pa) fun σ H Q q => by
  obtain ⟨F, L, A, en, S, q⟩ := q
  refine ⟨F, L, A, en, S, ?_⟩
  unfold vTup at q
  cases e1 : gs en with
  | no =>
    rw [e1] at q
    exact q
  | ex x =>
    rw [e1] at q
    exact q
  | ok ts =>
    rw [e1] at q
    intro vs F1 H1 B1 p1 r1 b1 c1
    have hn : vs.length ≤ sizeLine := by
      rw [← Reps.length r1, h.len en ts e1]
      exact line_le hl
    refine ⟨hn, fun p hp => ?_⟩
    have S1 := S.pur p1
    unfold mkTup at q
    dsimp only at q
    have h2 : Same H1 (upd H1 p (.tup vs)) := fun a u e => by rw [upd_ne (ne_of_none e hp)]; exact e
    cases e2 : allF ts with
    | none =>
      rw [e2] at q
      obtain ⟨h1, h2⟩ := Rep.node (k := .tup) (o := .tup vs) r1 hp (vw_same S1.sL) S1.sF upd_same
      refine q _ F1 _ _ (p1.trans (Pur.new S1.sF h2)) (Rep.keep (Le.refl _) (Le.of (vw_mono h2)) _ _ _ (fun _ _ => rfl) h1) (fun a z => ?_) (fun a z => ?_)
      · rcases z with z | z
        · obtain rfl : a = p := z
          exact p1.h.free hp
        · exact b1 a z
      · rcases z with z | z
        · obtain rfl : a = p := z
          exact S1.sF.free hp
        · exact c1 a z
    | some ds =>
      rw [e2] at q
      obtain ⟨h1, rfl⟩ := allF_reps e2 r1
      have hF : F1 p = none := S1.sF.free hp
      have sf : Same F1 (upd F1 p (.tup vs)) := fun a u e => by rw [upd_ne (ne_of_none e hF)]; exact e
      have pu : Pur F1 H1 (upd F1 p (.tup vs)) (upd H1 p (.tup vs)) := ⟨h2, sf, fun a e n => by
        by_cases z : a = p
        · rw [z]; exact hp
        · rw [upd_ne z] at n
          exact absurd e n, fun a u e => by
        by_cases z : a = p
        · subst z
          rw [upd_same] at e ⊢
          exact e
        · rw [upd_ne z] at e ⊢
          exact S1.sF a u e⟩
      refine q (.ref p) _ _ fe (p1.trans pu) ?_ (fun _ z => z.elim) fun _ z => z.elim
      unfold Rep RepD
      exact ⟨rfl, p, vs, rfl, .inl (.inl upd_same), RepDs.mono (Le.of sf) ds vs h1⟩
end
end DT
/-! Data trees, part 6: defs and their calls; statements. -/
namespace DT
open PySem L2
variable {K : Gx}

/-! ### what a def does -/
inductive Cr where
  | ok (t : T) (ps : En) | ex (x : Ex) (ps : En) | no
def Cr.v : Cr → Rv
  | .ok t _ => .ok t
  | .ex x _ => .ex x
  | .no => .no
/-- the parameters' slots behind the body: those that it wrote are forgotten -/
def msk (ws : List Nat) : Nat → En → En
  | _, [] => []
  | i, o :: en => (if i ∈ ws then none else o) :: msk ws (i + 1) en
def fin (n : Nat) (ws : List Nat) : So → Cr
  | .nx e => .ok .o (msk ws 0 (e.take n))
  | .rt t e => .ok t (msk ws 0 (e.take n))
  | .ex x e => .ex x (msk ws 0 (e.take n))
  | _ => .no
/-- the slots at the start: the arguments, then empty ones -/
def ini (N : Nat) (ts : List T) : En := ts.map some ++ List.replicate (N - ts.length) none
/-- a def's promise: n parameters, r what it does -/
def spS (K : Gx) (n : Nat) (r : List T → Cr) : Sp := fun vs H Q E => vs.length = n ∧ ∃ F L A ts, Stk K F L H (vs.map some) (ts.map some) A ∧ match r ts with
  | .ok t ps => ∀ v F' H' A' B, Stk K F' L H' (vs.map some) ps A' → Rep K F' L H' t v B → noLk t = true → Dj A' B → (∀ p, B p → F' p = none) → (∀ p, B p → L p = none) → Step F H A F' H' (fu A' B) → Q v H'
  | .ex x ps => ∀ cls d F' H' A', Stk K F' L H' (vs.map some) ps A' → ExRep K F' cls d x → Step F H A F' H' A' → E cls d H'
  | .no => False
theorem Slots.of_reps {F L H : Hp} : ∀ {ts : List T} {vs : List V} {A : Fp}, Reps K F L H ts vs A → Slots K F L H (vs.map some) (ts.map some) A
  | [], vs, A, h => by
    unfold Reps at h
    obtain ⟨rfl, h⟩ := h
    exact h
  | t :: ts, vs, A, h => by
    unfold Reps at h
    obtain ⟨v, ws, A1, A2, rfl, a, b, c, d⟩ := h
    exact ⟨A1, A2, a, b, c, Slots.of_reps d⟩
theorem Slots.append {F L H : Hp} : ∀ {σ τ : List (Option V)} {en fn : En} {A B : Fp}, Slots K F L H σ en A → Slots K F L H τ fn B → Dj A B → Slots K F L H (σ ++ τ) (en ++ fn) (fu A B)
  | [], τ, [], fn, A, B, h, h2, _ => by
    obtain rfl : A = fe := h
    rw [e_fu]
    exact h2
  | o :: σ, τ, e :: en, fn, A, B, h, h2, dj => by
    obtain ⟨A1, A2, rfl, b, c, d⟩ := h
    exact ⟨A1, fu A2 B, fu_assoc, fun p x y => y.elim (b p x) (dj p (.inl x)), c, Slots.append d h2 fun p x y => dj p (.inr x) y⟩
  | [], _, _ :: _, _, A, B, h, _, _ => h.elim
  | _ :: _, _, [], _, A, B, h, _, _ => h.elim
theorem Slots.nones {F L H : Hp} : ∀ n : Nat, Slots K F L H (List.replicate n none) (List.replicate n none) fe
  | 0 => rfl
  | n + 1 => ⟨fe, fe, fu_e.symm, e_dj, rfl, Slots.nones n⟩
/-- the parameters' slots, as they were handed in -/
theorem Slots.params {F L H : Hp} {ws : List Nat} : ∀ {vs : List V} {σ : List (Option V)} {en : En} {A : Fp} (i : Nat), Slots K F L H σ en A → vs.length ≤ σ.length → (∀ j, j < vs.length → i + j ∉ ws → σ[j]? = (vs.map some)[j]?) →
    ∃ A', Slots K F L H (vs.map some) (msk ws i (en.take vs.length)) A' ∧ ∀ p, A' p → A p
  | [], σ, en, A, i, h, _, _ => ⟨fe, by show Slots K F L H [] (msk ws i (en.take 0)) fe; rw [List.take_zero]; rfl, fun _ z => z.elim⟩
  | v :: vs, o :: σ, e :: en, A, i, h, hl, hs => by
    obtain ⟨A1, A2, rfl, b, c, d⟩ := h
    obtain ⟨A', h1, h2⟩ := Slots.params (ws := ws) (vs := vs) (i + 1) d (by simpa using hl) fun j hj hn => by
      have := hs (j + 1) (by simpa using hj) (by rw [show i + (j + 1) = i + 1 + j by omega]; exact hn)
      simpa using this
    by_cases w : i ∈ ws
    · refine ⟨A', ?_, fun p z => .inr (h2 p z)⟩
      show Slots K F L H (some v :: vs.map some) ((if i ∈ ws then none else e) :: msk ws (i + 1) (en.take vs.length)) A'
      rw [if_pos w]
      exact ⟨fe, A', e_fu.symm, e_dj, rfl, h1⟩
    · refine ⟨fu A1 A', ?_, fun p z => z.elim .inl fun z => .inr (h2 p z)⟩
      show Slots K F L H (some v :: vs.map some) ((if i ∈ ws then none else e) :: msk ws (i + 1) (en.take vs.length)) _
      rw [if_neg w]
      have e0 : o = some v := by
        have := hs 0 (by simp) (by simpa using w)
        simpa using this
      subst e0
      exact ⟨A1, A', rfl, fun p x y => b p x (h2 p y), c, h1⟩
  | v :: vs, [], en, A, i, h, hl, hs => by simp at hl
  | v :: vs, _ :: _, [], A, i, h, hl, hs => h.elim
/-- a body is its def's promise -/
theorem spS_start {n N : Nat} {ws : List Nat} {s : En → So} {W : WX} {vs : List V} {H : Hp} {Q : VK} {E : XK} (hn : n ≤ N) (hW : ∀ cls d σ H, E cls d H → W cls d σ H) {Ns : List Str} (hN : Ns.length = N)
    (h : spS K n (fun ts => fin n ws (s (ini N ts))) vs H Q E) : tS K s W ws { nx := fun _ H' => Q .non H', rt := Q } (L2.start Ns vs) H := by
  obtain ⟨hl, F, L, A, ts, S, q⟩ := h
  have len : ts.length = n := by
    have := S.sl.len
    simp at this
    omega
  have par : ∀ {σ' : L2.St} {F' H' : Hp} {en' : En} {A' : Fp}, Stk K F' L H' σ' en' A' → Wr ws (L2.start Ns vs) σ' → ∃ A2, Stk K F' L H' (vs.map some) (msk ws 0 (en'.take n)) A2 ∧ ∀ p, A2 p → A' p := by
    intro σ' F' H' en' A' S' hw
    obtain ⟨A2, h1, h2⟩ := Slots.params (ws := ws) (vs := vs) 0 S'.sl (by
      rw [hw.1]
      unfold L2.start
      simp) fun j hj hn => by
        rw [Nat.zero_add] at hn
        rw [hw.2 j hn]
        unfold L2.start
        rw [List.getElem?_append_left (by simpa using hj)]
    rw [hl] at h1
    exact ⟨A2, ⟨h1, S'.sF, S'.sL, fun p z => S'.nF p (h2 p z), fun p z => S'.nL p (h2 p z)⟩, h2⟩
  refine ⟨F, L, A, ini N ts, ⟨?_, S.sF, S.sL, S.nF, S.nL⟩, ?_⟩
  · have h2 := Slots.append S.sl (Slots.nones (K := K) (F := F) (L := L) (H := H) (N - n)) dj_e
    rw [fu_e] at h2
    unfold ini L2.start
    rw [len, hN, hl]
    exact h2
  · have step : ∀ {F' H' : Hp} {A1 A2 B : Fp}, Step F H A F' H' (fu A1 B) → (∀ p, A2 p → A1 p) → Step F H A F' H' (fu A2 B) := fun st i => ⟨st.fr, fun a z => st.ow a (z.elim (fun z => .inl (i a z)) .inr), st.fx, st.fg, st.sF⟩
    have step0 : ∀ {F' H' : Hp} {A1 A2 : Fp}, Step F H A F' H' A1 → (∀ p, A2 p → A1 p) → Step F H A F' H' A2 := fun st i => ⟨st.fr, fun a z => st.ow a (i a z), st.fx, st.fg, st.sF⟩
    dsimp only at q
    cases e : s (ini N ts) with
    | nx en' =>
      rw [e] at q
      intro σ' F' H' A' S' st hw
      obtain ⟨A2, S2, i2⟩ := par S' hw
      exact q .non F' H' A2 fe S2 Rep.of_flat rfl dj_e (fun _ z => z.elim) (fun _ z => z.elim) (by rw [fu_e]; exact step0 st i2)
    | rt t en' =>
      rw [e] at q
      intro v σ' F' H' A' B S' r nl dj b1 b2 st hw
      obtain ⟨A2, S2, i2⟩ := par S' hw
      exact q v F' H' A2 B S2 r nl (fun p z => dj p (i2 p z)) b1 b2 (step st i2)
    | bk en' =>
      rw [e] at q
      exact q.elim
    | ex x en' =>
      rw [e] at q
      intro cls d σ' F' H' A' S' er st hw
      obtain ⟨A2, S2, i2⟩ := par S' hw
      exact hW _ _ _ _ (q cls d F' H' A2 S2 er (step0 st i2))
    | no =>
      rw [e] at q
      exact q

/-! ### calls -/
def vCall (r : List T → Cr) (gs : En → Rvs) : En → Rv := fun en => match gs en with
  | .ok ts => (r ts).v
  | .ex x => .ex x
  | .no => .no
/-- a call behind its arguments -/
theorem call_ok {n : Nat} {r : List T → Cr} {gs : En → Rvs} {W : WX} {σ : L2.St} {H : Hp} {Q : VK} {m : Nat} (hm : ∀ en ts, gs en = .ok ts → ts.length = n) (q : tV K (vCall r gs) W σ H Q) :
    tVA K gs W σ H fun vs H1 => spS K n r vs H1 Q fun cls d H' => W cls d σ H' := by
  obtain ⟨F, L, A, en, S, q⟩ := q
  refine ⟨F, L, A, en, S, ?_⟩
  unfold vCall at q
  cases e1 : gs en with
  | no =>
    rw [e1] at q
    exact q
  | ex x =>
    rw [e1] at q
    exact q
  | ok ts =>
    rw [e1] at q
    intro vs F1 H1 B1 p1 r1 b1 c1
    have S1 := S.pur p1
    have fresh : ∀ a, B1 a → ¬ A a := fun a z w => S.sl.dom a w (b1 a z)
    have hL : ∀ a, B1 a → vw L H1 A a = none := fun a z => by
      rw [vw_out (fresh a z)]
      exact S.sL.free (b1 a z)
    refine ⟨by rw [← Reps.length r1]; exact hm en ts e1, F1, vw L H1 A, B1, ts, ⟨Slots.of_reps r1, S1.sF, vw_same S1.sL, c1, hL⟩, ?_⟩
    have pur : ∀ {F' H' : Hp} {C : Fp}, Step F1 H1 B1 F' H' C → Pur F H F' H' := fun {F' H' C} st => ⟨fun a o e => st.fr a o (p1.h a o e) fun z => (by rw [b1 a z] at e; cases e), p1.f.trans st.fx, fun a e n => by
      by_cases z : F1 a = none
      · rcases st.fg a z n with y | y
        · exact b1 a y
        · exact p1.h.free y
      · exact p1.g a e z, st.sF⟩
    dsimp only at q
    cases e2 : r ts with
    | no =>
      rw [e2] at q
      exact q
    | ex x ps =>
      rw [e2] at q
      intro cls d F' H' A' S' er st
      exact q cls d F' H' (pur st) er
    | ok t ps =>
      rw [e2] at q
      intro v F' H' A' B S' rp nl dj h1 h2 st
      refine q v F' H' B (pur st) (Rep.keepN (Le.refl _) t v B nl (fun _ _ => rfl) rp) (fun a z => ?_) h1
      rcases st.ow a (.inr z) with y | y
      · exact b1 a y
      · exact p1.h.free y
section
variable {X : Cx} {W : Wt} {k : Nat} {e : Expr} {es : List Expr} {gs : En → Rvs} {r : List T → Cr} {f : Addr} {fd : FuncData} {ps : List Str} {x : Str} {p pos : Pos}
theorem VE.call {j : Nat} (C : Cxt k X W) (F : FnOk X.prog X.w X.K X.mg X.base (L2N.CX X.prog X.w) j f fd ps (spS (gx X W) (e :: es).length r)) (hj : j ≤ k) (hm : X.mg x = some (.ref f)) (hk : PySem.W.keepIn X.K (.ref f) = true) (hb : Binds X.K fd ps []) (ha : AE X W gs (e :: es)) (hg : Gl X x := by rfl)
    (hdb : (x == ("__debug__" : Str)) = false := by decide) (he : starEach (e :: es) X.env = (false, eval e X.env) :: starEach es X.env := by rfl) (hpl : (backTo pos (starEach es X.env)).any (·.1) = false := by rfl) : VE X W (vCall r gs) (.Call (.Name x p) (e :: es) [] pos) :=
  pe_imp (pe_callSD (E := fun σ cls d H => W.w cls d σ H) F (C.room.mono hj) hg hm hk hb .nil (fun σ => L2N.passAt C.tk σ) ha.pa hdb he hpl) fun σ H Q q => by
    obtain ⟨F0, L, A, en, S, q⟩ := call_ok (m := 0) ha.len q
    refine ⟨F0, L, A, en, S, ?_⟩
    simp only [List.append_nil]
    exact q
end
end DT
/-! Data trees, part 7: statements. -/
namespace DT
open PySem L2
variable {K : Gx}
theorem Step.sub {F H F' H' : Hp} {A A1 A2 : Fp} (st : Step F H A F' H' A1) (i : ∀ p, A2 p → A1 p) : Step F H A F' H' A2 := ⟨st.fr, fun a z => st.ow a (i a z), st.fx, st.fg, st.sF⟩
theorem Slots.put {F L H : Hp} {σ : L2.St} {en : En} {A B : Fp} {i : Nat} {t : T} {v : V} (S : Slots K F L H σ en A) (r : Rep K F L H t v B) (dj : Dj A B) : ∃ A', Slots K F L H (σ.set i (some v)) (en.set i (some t)) A' ∧ ∀ p, A' p → A p ∨ B p := by
  cases e : en[i]? with
  | none =>
    have h1 : en.length ≤ i := List.getElem?_eq_none_iff.mp e
    have h2 := S.len
    rw [List.set_eq_of_length_le (by omega), List.set_eq_of_length_le h1]
    exact ⟨A, S, fun p z => .inl z⟩
  | some o =>
    obtain ⟨o, Ai, Ar, h1, h2, rfl, h4, h5, h6⟩ := Slots.focus S e
    exact ⟨fu B Ar, h6 (Le.refl F) (Le.refl L) (fun _ _ => rfl) (some v) (some t) B r (fun p x y => dj p (.inr y) x), fun p z => z.elim .inr fun z => .inl (.inr z)⟩
theorem Stk.put {F L H : Hp} {σ : L2.St} {en : En} {A B : Fp} {i : Nat} {t : T} {v : V} (S : Stk K F L H σ en A) (r : Rep K F L H t v B) (dj : Dj A B) (b1 : ∀ p, B p → F p = none) (b2 : ∀ p, B p → L p = none) :
    ∃ A', Stk K F L H (σ.set i (some v)) (en.set i (some t)) A' ∧ ∀ p, A' p → A p ∨ B p := by
  obtain ⟨A', h1, h2⟩ := Slots.put (i := i) S.sl r dj
  exact ⟨A', ⟨h1, S.sF, S.sL, fun p z => (h2 p z).elim (S.nF p) (b1 p), fun p z => (h2 p z).elim (S.nL p) (b2 p)⟩, h2⟩

/-! ### moved, frozen names -/
def dMv (i : Nat) : En → Rs := fun en => match en[i]? with
  | some (some t) => .ok t (en.set i none)
  | _ => .no
def dFz (i : Nat) : En → Rs := fun en => match en[i]? with
  | some (some t) => if noLk t = true then .ok (.f (era t)) (en.set i (some (.f (era t)))) else .no
  | _ => .no
section
variable {X : Cx} {W : Wt} {e a b c : Expr} {es : List Expr} {pos pos' : Pos} {g : En → Rv} {f : En → Rs} {x : Str} {k : Nat}
theorem set_self {α : Type} {l : List α} {i : Nat} {x : α} (h : l[i]? = some x) : l.set i x = l := by
  obtain ⟨hi, e⟩ := List.getElem?_eq_some_iff.mp h
  rw [← e, List.set_getElem_self]
theorem DE.of_mv (i : Nat) (h : PE X e (tVar i)) : DE X W (dMv i) e := pe_imp h fun σ H Q q => by
  obtain ⟨F, L, A, en, S, q⟩ := q
  unfold dMv at q
  cases e1 : en[i]? with
  | none =>
    rw [e1] at q
    exact q.elim
  | some o =>
    cases o with
    | none =>
      rw [e1] at q
      exact q.elim
    | some t =>
      rw [e1] at q
      obtain ⟨o, Ai, Ar, h1, h2, rfl, h4, h5, h6⟩ := Slots.focus S.sl e1
      cases o with
      | none => exact h2.elim
      | some v =>
        have s1 := h6 (Le.refl F) (Le.refl L) (fun _ _ => rfl) (some v) none fe rfl e_dj
        rw [set_self h1, e_fu] at s1
        refine ⟨v, h1, q v F H Ar Ai ⟨s1, S.sF, S.sL, fun p z => S.nF p (.inr z), fun p z => S.nL p (.inr z)⟩ ?_ h4.symm (fun p z => S.nF p (.inl z)) (fun p z => S.nL p (.inl z)) ?_⟩
        · exact Rep.keep (Le.refl F) (Le.of (vw_le fun p z => S.nL p (.inr z))) t v Ai (fun _ _ => rfl) h2
        · exact ⟨fun a o e _ => e, fun a z => .inl (z.elim .inr .inl), Same.refl F, fun a e n => absurd e n, S.sF⟩
open Classical in
noncomputable def frz (F H : Hp) (A : Fp) : Hp := fun a => if A a then H a else F a
theorem frz_in {F H : Hp} {A : Fp} {a : Addr} (h : A a) : frz F H A a = H a := if_pos h
theorem frz_out {F H : Hp} {A : Fp} {a : Addr} (h : ¬ A a) : frz F H A a = F a := if_neg h
theorem frz_le {F H : Hp} {A : Fp} (n : ∀ p, A p → F p = none) : Same F (frz F H A) := fun a o e => by
  by_cases z : A a
  · rw [n a z] at e; cases e
  · rw [frz_out z]; exact e
theorem frz_same {F H : Hp} {A : Fp} (s : Same F H) : Same (frz F H A) H := fun a o e => by
  by_cases z : A a
  · rw [frz_in z] at e; exact e
  · rw [frz_out z] at e; exact s a o e
theorem DE.of_fz (i : Nat) (h : PE X e (tVar i)) : DE X W (dFz i) e := pe_imp h fun σ H Q q => by
  obtain ⟨F, L, A, en, S, q⟩ := q
  unfold dFz at q
  cases e1 : en[i]? with
  | none =>
    rw [e1] at q
    exact q.elim
  | some o =>
    cases o with
    | none =>
      rw [e1] at q
      exact q.elim
    | some t =>
      rw [e1] at q
      dsimp only at q
      by_cases nl : noLk t = true
      · rw [if_pos nl] at q
        obtain ⟨o, Ai, Ar, h1, h2, rfl, h4, h5, h6⟩ := Slots.focus S.sl e1
        cases o with
        | none => exact h2.elim
        | some v =>
          have hle : Same F (frz F H Ai) := frz_le fun p z => S.nF p (.inl z)
          have rd : RepD (gx X W) (frz F H Ai) (era t) v := Rep.freeze (Le.of hle) t v Ai nl (fun p z => frz_in z) h2
          have s1 := h6 (F' := frz F H Ai) (H' := H) (Le.of hle) (Le.refl L) (fun _ _ => rfl) (some v) (some (.f (era t))) fe (show Rep (gx X W) _ _ _ _ _ _ by unfold Rep; exact ⟨rfl, rd⟩) e_dj
          rw [set_self h1, e_fu] at s1
          refine ⟨v, h1, q v (frz F H Ai) H Ar fe ⟨s1, frz_same S.sF, S.sL, fun p z => ?_, fun p z => S.nL p (.inr z)⟩ (by unfold Rep; exact ⟨rfl, rd⟩) dj_e (fun _ z => z.elim) (fun _ z => z.elim) ?_⟩
          · rw [frz_out fun w => h4 p w z]
            exact S.nF p (.inr z)
          · refine ⟨fun a o e _ => e, fun a z => .inl (z.elim .inr fun z => z.elim), hle, fun a e n => ?_, frz_same S.sF⟩
            by_cases z : Ai a
            · exact .inl (.inl z)
            · rw [frz_out z] at n
              exact absurd e n
      · rw [if_neg nl] at q
        exact q.elim
theorem DE.mv (i : Nat) (hN : X.N[i]? = some x := by rfl) (hv : Vis X.env.scope x := by first | exact Or.inl rfl | exact Or.inr (Or.inl rfl) | exact Or.inr (Or.inr rfl)) (hd : (x == ("__debug__" : Str)) = false := by decide)
    (hcd : (x == ("__classdict__" : Str)) = false := by decide) : DE X W (dMv i) (.Name x pos) := DE.of_mv i (pe_var hN hv hd hcd)
theorem DE.fz (i : Nat) (hN : X.N[i]? = some x := by rfl) (hv : Vis X.env.scope x := by first | exact Or.inl rfl | exact Or.inr (Or.inl rfl) | exact Or.inr (Or.inr rfl)) (hd : (x == ("__debug__" : Str)) = false := by decide)
    (hcd : (x == ("__classdict__" : Str)) = false := by decide) : DE X W (dFz i) (.Name x pos) := DE.of_fz i (pe_var hN hv hd hcd)

/-! ### simple statements -/
def sAsg (i : Nat) (f : En → Rs) : En → So := fun en => match f en with
  | .ok t e => if noLk t = true then .nx (e.set i (some t)) else .no
  | .ex x e => .ex x e
  | .no => .no
def sDrop (f : En → Rs) : En → So := fun en => match f en with
  | .ok _ e => .nx e
  | .ex x e => .ex x e
  | .no => .no
def sRet (f : En → Rs) : En → So := fun en => match f en with
  | .ok t e => if noLk t = true then .rt t e else .no
  | .ex x e => .ex x e
  | .no => .no
theorem SE.asg {i : Nat} (nd : X.N.Nodup) (h : DE X W f e) (hi : X.N[i]? = some x := by rfl) (hx : Loc X.env.scope x := by first | exact Or.inl rfl | exact Or.inr rfl) (hs : swapsWith e (some (.Name x pos')) pos.line X.env = pure false := by rfl)
    (hf : X.fn x = true ∨ X.env.scope.names.lookup x = some .local := by first | exact .inl rfl | exact .inr rfl) : SE X W (sAsg i f) [i] (.Assign [.Name x pos'] e pos) :=
  ps_imp (ps_set (pos := pos) nd hi hx h hs hf) fun D σ H q => by
    obtain ⟨F, L, A, en, S, q⟩ := q
    refine ⟨F, L, A, en, S, ?_⟩
    unfold sAsg at q
    cases e1 : f en with
    | no =>
      rw [e1] at q
      exact q
    | ex x en1 =>
      rw [e1] at q
      exact fun cls d F' H' A' S' er st => q cls d σ F' H' A' S' er st Wr.refl
    | ok t en1 =>
      rw [e1] at q
      dsimp only at q
      by_cases nl : noLk t = true
      · rw [if_pos nl] at q
        intro v F' H' A' B S' r dj b1 b2 st
        obtain ⟨A2, S2, i2⟩ := Stk.put (i := i) S' (Rep.keepN (L' := L) (Le.refl _) t v B nl (fun _ _ => rfl) r) dj b1 b2
        exact q _ F' H' A2 S2 (st.sub i2) Wr.set
      · rw [if_neg nl] at q
        exact q.elim
theorem SE.expr (h : DE X W f e) (hs : swapsWith e none pos.line X.env = pure false := by rfl) : SE X W (sDrop f) [] (.Expr e pos) := ps_imp (ps_expr h hs) fun D σ H q => by
  obtain ⟨F, L, A, en, S, q⟩ := q
  refine ⟨F, L, A, en, S, ?_⟩
  unfold sDrop at q
  cases e1 : f en with
  | no =>
    rw [e1] at q
    exact q
  | ex x en1 =>
    rw [e1] at q
    exact fun cls d F' H' A' S' er st => q cls d σ F' H' A' S' er st Wr.refl
  | ok t en1 =>
    rw [e1] at q
    exact fun v F' H' A' B S' r dj b1 b2 st => q σ F' H' A' S' (st.sub fun p z => .inl z) Wr.refl
theorem ret_ok {K : Gx} {w : WX} {D : Ends} {σ : L2.St} {H : Hp} (q : tS K (sRet f) w [] D σ H) : tRet (tE K f w) D σ H := by
  obtain ⟨F, L, A, en, S, q⟩ := q
  refine ⟨F, L, A, en, S, ?_⟩
  unfold sRet at q
  cases e1 : f en with
  | no =>
    rw [e1] at q
    exact q
  | ex x en1 =>
    rw [e1] at q
    exact fun cls d F' H' A' S' er st => q cls d σ F' H' A' S' er st Wr.refl
  | ok t en1 =>
    rw [e1] at q
    dsimp only at q
    by_cases nl : noLk t = true
    · rw [if_pos nl] at q
      exact fun v F' H' A' B S' r dj b1 b2 st => q v σ F' H' A' B S' (Rep.keepN (L' := L) (Le.refl _) t v B nl (fun _ _ => rfl) r) nl dj b1 b2 st Wr.refl
    · rw [if_neg nl] at q
      exact q.elim
theorem SE.ret (h : DE X W f e) : SE X W (sRet f) [] (.Return (some e) pos) := ps_imp (ps_ret h) fun D σ H q => ret_ok q
theorem SE.retN : SE X W (fun en => .rt .o en) [] (.Return none pos) := ps_imp ps_retN fun D σ H q => by
  obtain ⟨F, L, A, en, S, q⟩ := q
  exact q .non σ F H A fe S Rep.of_flat rfl dj_e (fun _ z => z.elim) (fun _ z => z.elim) (by rw [fu_e]; exact (Pur.refl S.sF).step0) Wr.refl
def sNx : En → So := fun en => .nx en
theorem SE.pass : SE X W sNx [] (.Pass pos) := ps_imp ps_pass fun D σ H q => by
  obtain ⟨F, L, A, en, S, q⟩ := q
  exact q σ F H A S (Pur.refl S.sF).step0 Wr.refl
theorem SE.brk : SE X W (fun en => .bk en) [] (.Break pos) := ps_imp ps_break fun D σ H q => by
  obtain ⟨F, L, A, en, S, q⟩ := q
  exact q σ F H A S (Pur.refl S.sF).step0 Wr.refl

/-! ### blocks -/
variable {s1 s2 : En → So} {w1 w2 : List Nat} {st : Stmt} {rest : List Stmt} {p : En → Rb}
def sSeq (s1 s2 : En → So) : En → So := fun en => match s1 en with
  | .nx e => s2 e
  | r => r
theorem SEs.nil : SEs X W sNx [] [] := pss_imp pss_nil fun D σ H q => by
  obtain ⟨F, L, A, en, S, q⟩ := q
  exact q σ F H A S (Pur.refl S.sF).step0 Wr.refl
theorem SEs.one (h : SE X W s1 w1 st) : SEs X W s1 w1 [st] := pss_one h
theorem seq_ok {K : Gx} {w : WX} {D : Ends} {σ : L2.St} {H : Hp} (q : tS K (sSeq s1 s2) w (w1 ++ w2) D σ H) : tSeq (tS K s1 w w1) (tS K s2 w w2) D σ H := by
  obtain ⟨F, L, A, en, S, q⟩ := q
  refine ⟨F, L, A, en, S, ?_⟩
  unfold sSeq at q
  have m1 : ∀ i ∈ w1, i ∈ w1 ++ w2 := fun i z => List.mem_append_left _ z
  have m2 : ∀ i ∈ w2, i ∈ w1 ++ w2 := fun i z => List.mem_append_right _ z
  cases e1 : s1 en with
  | nx en1 =>
    rw [e1] at q
    intro σ1 F1 H1 A1 S1 st1 wr
    exact ⟨F1, L, A1, en1, S1, Cl.on st1 (wr.mono m1) m2 q⟩
  | rt t e =>
    rw [e1] at q
    exact fun v σ' F' H' A' B S' r n d b1 b2 s2 w => q v σ' F' H' A' B S' r n d b1 b2 s2 (w.mono m1)
  | bk e =>
    rw [e1] at q
    exact fun σ' F' H' A' S' s2 w => q σ' F' H' A' S' s2 (w.mono m1)
  | ex x e =>
    rw [e1] at q
    exact fun cls d σ' F' H' A' S' er s2 w => q cls d σ' F' H' A' S' er s2 (w.mono m1)
  | no =>
    rw [e1] at q
    exact q
theorem SEs.cons (h : SE X W s1 w1 st) (h2 : SEs X W s2 w2 rest) : SEs X W (sSeq s1 s2) (w1 ++ w2) (st :: rest) := pss_imp (pss_cons h h2) fun D σ H q => seq_ok q
def sIf (p : En → Rb) (s1 s2 : En → So) : En → So := fun en => match p en with
  | .ok true => s1 en
  | .ok false => s2 en
  | .ex x => .ex x en
  | .no => .no
theorem ite_ok {K : Gx} {w : WX} {D : Ends} {σ : L2.St} {H : Hp} (q : tS K (sIf p s1 s2) w (w1 ++ w2) D σ H) : tIfS (tT K p w) (tS K s1 w w1) (tS K s2 w w2) D σ H := by
  obtain ⟨F, L, A, en, S, q⟩ := q
  refine ⟨F, L, A, en, S, ?_⟩
  unfold sIf at q
  cases e1 : p en with
  | ok b =>
    rw [e1] at q
    intro F1 H1 pu
    cases b with
    | true =>
      rw [if_pos rfl]
      exact ⟨F1, L, A, en, S.pur pu, Cl.on pu.step0 Wr.refl (fun i z => List.mem_append_left _ z) q⟩
    | false =>
      rw [if_neg Bool.false_ne_true]
      exact ⟨F1, L, A, en, S.pur pu, Cl.on pu.step0 Wr.refl (fun i z => List.mem_append_right _ z) q⟩
  | ex x =>
    rw [e1] at q
    exact fun cls d F' H' pu er => q cls d σ F' H' A (S.pur pu) er pu.step0 Wr.refl
  | no =>
    rw [e1] at q
    exact q
theorem SE.ite {a b : List Stmt} (hc : VT X W p c) (ha : SEs X W s1 w1 a) (hb : SEs X W s2 w2 b) : SE X W (sIf p s1 s2) (w1 ++ w2) (.If c a b pos) := ps_imp (ps_if hc ha hb) fun D σ H q => ite_ok q
end
end DT
/-! Data trees, part 8: loops. -/
namespace DT
open PySem L2
variable {K : Gx}

/-! ### targets -/
/-- what a target does with a tree -/
def tG (K : Gx) (b : T → En → Option En) (ws : List Nat) : TG := fun v σ H Q => ∃ F L A B en t en', Stk K F L H σ en A ∧ Rep K F L H t v B ∧ Dj A B ∧ (∀ p, B p → F p = none) ∧ (∀ p, B p → L p = none) ∧ b t en = some en' ∧
  ∀ σ' A', Stk K F L H σ' en' A' → (∀ p, A' p → A p ∨ B p) → Wr ws σ σ' → Q σ' H
abbrev GE (X : Cx) (W : Wt) (b : T → En → Option En) (ws : List Nat) (e : Expr) : Prop := PG X e (tG (gx X W) b ws)
def gN (i : Nat) : T → En → Option En := fun t en => some (en.set i (some t))
def tGs (K : Gx) (b : List T → En → Option En) (ws : List Nat) : TGs := fun vs σ H Q => ∃ F L A B en ts en', Stk K F L H σ en A ∧ Reps K F L H ts vs B ∧ Dj A B ∧ (∀ p, B p → F p = none) ∧ (∀ p, B p → L p = none) ∧ b ts en = some en' ∧
  ∀ σ' A', Stk K F L H σ' en' A' → (∀ p, A' p → A p ∨ B p) → Wr ws σ σ' → Q σ' H
structure GEs (X : Cx) (W : Wt) (b : List T → En → Option En) (ws : List Nat) (es : List Expr) : Prop where
  pg : PGs X es (tGs (gx X W) b ws)
  len : ∀ ts en en', b ts en = some en' → ts.length = es.length
def gsNil : List T → En → Option En
  | [], en => some en
  | _, _ => none
def gsCons (b : T → En → Option En) (bs : List T → En → Option En) : List T → En → Option En
  | t :: ts, en => (b t en).bind (bs ts)
  | [], _ => none
def gT (bs : List T → En → Option En) : T → En → Option En := fun t en => match kids t with
  | some (.tup, ts) => bs ts en
  | _ => none
section
variable {X : Cx} {W : Wt} {e : Expr} {es : List Expr} {pos : Pos} {x : Str} {k : Nat} {b : T → En → Option En} {bs : List T → En → Option En} {w1 w2 : List Nat}
theorem pg_imp {X : Cx} {e : Expr} {t t' : TG} (h : PG X e t) (i : ∀ v σ H Q, t' v σ H Q → t v σ H Q) : PG X e t' := by
  cases h with
  | mk run => exact ⟨fun pins s σ H v u Q I r q => run pins s σ H v u Q I r (i v σ H Q q)⟩
theorem pgs_imp {X : Cx} {e : List Expr} {t t' : TGs} (h : PGs X e t) (i : ∀ v σ H Q, t' v σ H Q → t v σ H Q) : PGs X e t' := by
  cases h with
  | mk run => exact ⟨fun pins s σ H v u Q I r q => run pins s σ H v u Q I r (i v σ H Q q)⟩
theorem GE.name {i : Nat} (C : Cxt k X W) (hi : X.N[i]? = some x := by rfl) (hx : Loc X.env.scope x := by first | exact Or.inl rfl | exact Or.inr rfl) (hf : X.fn x = true ∨ X.env.scope.names.lookup x = some .local := by first | exact .inl rfl | exact .inr rfl) : GE X W (gN i) [i] (.Name x pos) :=
  pg_imp (pg_name C.nd hi hx hf) fun v σ H Q q => by
    obtain ⟨F, L, A, B, en, t, en', S, r, dj, b1, b2, eb, q⟩ := q
    cases eb
    obtain ⟨A', h1, h2⟩ := Stk.put (i := i) S r dj b1 b2
    exact q _ A' h1 h2 Wr.set
theorem gsNil_len {ts : List T} {en en' : En} (h : gsNil ts en = some en') : ts = [] ∧ en' = en := by
  cases ts with
  | nil => exact ⟨rfl, (Option.some.inj h).symm⟩
  | cons t ts => cases h
theorem GEs.nil : GEs X W gsNil [] [] := ⟨pgs_imp pgs_nil fun v σ H Q q => by
  obtain ⟨F, L, A, B, en, ts, en', S, r, dj, b1, b2, eb, q⟩ := q
  obtain ⟨rfl, rfl⟩ := gsNil_len eb
  unfold Reps at r
  exact ⟨r.1, q σ A S (fun p z => .inl z) Wr.refl⟩, fun ts en en' h => (by rw [(gsNil_len h).1]; rfl)⟩
theorem GEs.cons (h : GE X W b w1 e) (h2 : GEs X W bs w2 es) (hs : (assignEach (e :: es) X.env).map (·.2) = assign e X.env :: (assignEach es X.env).map (·.2) := by rfl) : GEs X W (gsCons b bs) (w1 ++ w2) (e :: es) := ⟨pgs_imp (pgs_cons h h2.pg hs) fun v σ H Q q => by
  obtain ⟨F, L, A, B, en, ts, en', S, r, dj, b1, b2, eb, q⟩ := q
  cases ts with
  | nil => cases eb
  | cons t ts =>
    unfold Reps at r
    obtain ⟨x, ws, B1, B2, rfl, rfl, d2, r1, r2⟩ := r
    have eb' : (b t en).bind (bs ts) = some en' := eb
    cases e1 : b t en with
    | none =>
      rw [e1] at eb'
      cases eb'
    | some en1 =>
      rw [e1] at eb'
      refine ⟨x, ws, rfl, F, L, A, B1, en, t, en1, S, r1, fun p z y => dj p z (.inl y), fun p z => b1 p (.inl z), fun p z => b2 p (.inl z), e1, fun σ1 A1 S1 i1 wr1 => ?_⟩
      refine ⟨F, L, A1, B2, en1, ts, en', S1, r2, fun p z y => ?_, fun p z => b1 p (.inr z), fun p z => b2 p (.inr z), eb', fun σ2 A2 S2 i2 wr2 => ?_⟩
      · rcases i1 p z with w | w
        · exact dj p w (.inr y)
        · exact d2 p w y
      · refine q σ2 A2 S2 (fun p z => ?_) ((wr1.mono fun i z => List.mem_append_left _ z).trans (wr2.mono fun i z => List.mem_append_right _ z))
        rcases i2 p z with w | w
        · rcases i1 p w with y | y
          · exact .inl y
          · exact .inr (.inl y)
        · exact .inr (.inr w), fun ts en en' hb => by
  cases ts with
  | nil => cases hb
  | cons t ts =>
    have eb' : (b t en).bind (bs ts) = some en' := hb
    cases e1 : b t en with
    | none =>
      rw [e1] at eb'
      cases eb'
    | some en1 =>
      rw [e1] at eb'
      show ts.length + 1 = es.length + 1
      rw [h2.len ts en1 en' eb']⟩
end

section
variable {X : Cx} {W : Wt} {e : Expr} {es : List Expr} {pos : Pos} {k kk : Nat} {bs : List T → En → Option En} {ws : List Nat}
theorem GE.tup (C : Cxt k X W) (h : GEs X W bs ws es) (hn : (assignEach es X.env).length = es.length := by rfl) (hst : (assignEach es X.env).findIdx? (·.1) = none := by rfl) : GE X W (gT bs) ws (.Tuple es kk pos) :=
  pg_imp (pg_tup C.cal h.pg hn hst) fun v σ H Q q => by
    obtain ⟨F, L, A, B, en, t, en', S, r, dj, b1, b2, eb, q⟩ := q
    unfold gT at eb
    split at eb
    · rename_i ts e1
      obtain ⟨p, vs, B1, rfl, o, i1, r1⟩ := Rep.kids r e1 S.sF S.sL
      refine ⟨p, vs, rfl, o, by rw [← Reps.length r1]; exact h.len ts en en' eb, F, L, A, B1, en, ts, en', S, r1, fun a z y => dj a z (i1 a y), fun a z => b1 a (i1 a z), fun a z => b2 a (i1 a z), eb, fun σ' A' S' i' wr => q σ' A' S' (fun a z => ?_) wr⟩
      rcases i' a z with w | w
      · exact .inl w
      · exact .inr (i1 a w)
    · cases eb
end

/-! ### loops over items -/
def lp (b : T → En → Option En) (s : En → So) : List T → En → So
  | [], en => .nx en
  | t :: ts, en => match b t en with
    | none => .no
    | some en1 => (match s en1 with
      | .nx e => lp b s ts e
      | .bk e => .nx e
      | r => r)
/-- what is walked: n items, told for each heap that F and L stand in -/
structure Wk (K : Gx) (F L : Hp) (J : It) (items : List T) : Prop where
  go : ∀ i H, i < items.length → Same F H → Same L H → J.go i H
  yld : ∀ i H x H', Same F H → Same L H → J.yld i H x H' → Same H H' ∧ ∀ t, items[i]? = some t → ∃ B, Rep K F L H' t x B ∧ ∀ p, B p → H p = none
  stop : ∀ H, Same F H → Same L H → J.stop items.length H
section
variable {X : Cx} {W : Wt} {e : Expr} {pos : Pos} {b : T → En → Option En} {s : En → So} {w1 w2 : List Nat}
theorem drop_cons {α : Type} {l : List α} {i : Nat} {x : α} (h : l[i]? = some x) : l.drop i = x :: l.drop (i + 1) := by
  obtain ⟨hi, e⟩ := List.getElem?_eq_some_iff.mp h
  rw [← e, List.drop_eq_getElem_cons hi]
theorem for_walk {W : WX} {J : It} {items : List T} {F L H : Hp} {A : Fp} {σ : L2.St} {en : En} {D : Ends} (wk : Wk K F L J items) (S : Stk K F L H σ en A) (c : Cl K F L H A σ W (w1 ++ w2) D (lp b s items en)) :
    ∃ Wv : Nat → Nat → L2.St → Hp → Prop, (∃ m, Wv 0 m σ H) ∧ ∀ i m σ H, Wv i m σ H →
      (J.stop i H ∧ D.nx σ H) ∨ (J.go i H ∧ ∃ N : L2.St → Hp → Prop, (∀ σ' H', N σ' H' → ∃ m', m' < m ∧ Wv (i + 1) m' σ' H') ∧ ∀ x H', J.yld i H x H' → tG K b w1 x σ H' fun σ2 H2 => tS K s W w2 { D with nx := N, ct := N, bk := D.nx } σ2 H2) := by
  let Pv : Nat → L2.St → Hp → Prop := fun i σ' H' => ∃ F' A' en', Stk K F' L H' σ' en' A' ∧ Same F F' ∧ Cl K F' L H' A' σ' W (w1 ++ w2) D (lp b s (items.drop i) en')
  refine ⟨fun i m σ' H' => m = items.length - i ∧ i ≤ items.length ∧ Pv i σ' H', ⟨items.length, by simp, Nat.zero_le _, F, A, en, S, Same.refl F, c⟩, ?_⟩
  rintro i m σ1 H1 ⟨rfl, hi, F1, A1, en1, S1, sf, c1⟩
  have sF1 : Same F H1 := sf.trans S1.sF
  by_cases hlt : i < items.length
  · refine .inr ⟨wk.go i H1 hlt sF1 S1.sL, Pv (i + 1), fun σ' H' p' => ⟨items.length - (i + 1), by omega, rfl, hlt, p'⟩, fun x H2 y => ?_⟩
    obtain ⟨sm, ht⟩ := wk.yld i H1 x H2 sF1 S1.sL y
    have e : items[i]? = some items[i] := by simp [hlt]
    obtain ⟨B, r, hB⟩ := ht _ e
    rw [drop_cons e] at c1
    have pu : Pur F1 H1 F1 H2 := Pur.new S1.sF sm
    have S2 := S1.pur pu
    cases eb : b items[i] en1 with
    | none =>
      have c2 : Cl K F1 L H1 A1 σ1 W (w1 ++ w2) D .no := by
        have : lp b s (items[i] :: items.drop (i + 1)) en1 = .no := by
          show (match b items[i] en1 with | none => So.no | some en1 => _) = _
          rw [eb]
        rw [this] at c1
        exact c1
      exact c2.elim
    | some en2 =>
      refine ⟨F1, L, A1, B, en1, items[i], en2, S2, Rep.keep (Le.of sf) (Le.refl L) _ x B (fun _ _ => rfl) r, fun p z w => S1.sl.dom p z (hB p w), fun p z => S1.sF.free (hB p z), fun p z => S1.sL.free (hB p z), eb, fun σ3 A3 S3 i3 wr3 => ?_⟩
      have st3 : Step F1 H1 A1 F1 H2 A3 := (pu.step (A := A1) hB).sub i3
      refine ⟨F1, L, A3, en2, S3, ?_⟩
      have c3 : Cl K F1 L H1 A1 σ1 W (w1 ++ w2) D (match s en2 with
          | .nx e => lp b s (items.drop (i + 1)) e
          | .bk e => .nx e
          | r => r) := by
        have : lp b s (items[i] :: items.drop (i + 1)) en1 = (match s en2 with
          | .nx e => lp b s (items.drop (i + 1)) e
          | .bk e => .nx e
          | r => r) := by
          show (match b items[i] en1 with | none => So.no | some en1 => _) = _
          rw [eb]
        rw [this] at c1
        exact c1
      have wr : Wr (w1 ++ w2) σ1 σ3 := wr3.mono fun i z => List.mem_append_left _ z
      have m2 : ∀ i ∈ w2, i ∈ w1 ++ w2 := fun i z => List.mem_append_right _ z
      cases e3 : s en2 with
      | nx en3 =>
        rw [e3] at c3
        intro σ4 F4 H4 A4 S4 st4 wr4
        exact ⟨F4, A4, en3, S4, sf.trans st4.fx, Cl.on (st3.trans st4) (wr.trans (wr4.mono m2)) (fun _ z => z) c3⟩
      | bk en3 =>
        rw [e3] at c3
        exact fun σ4 F4 H4 A4 S4 st4 wr4 => c3 σ4 F4 H4 A4 S4 (st3.trans st4) (wr.trans (wr4.mono m2))
      | rt t en3 =>
        rw [e3] at c3
        exact fun v σ4 F4 H4 A4 B4 S4 r4 n4 d4 b1 b2 st4 wr4 => c3 v σ4 F4 H4 A4 B4 S4 r4 n4 d4 b1 b2 (st3.trans st4) (wr.trans (wr4.mono m2))
      | ex x en3 =>
        rw [e3] at c3
        exact fun cls d σ4 F4 H4 A4 S4 er st4 wr4 => c3 cls d σ4 F4 H4 A4 S4 er (st3.trans st4) (wr.trans (wr4.mono m2))
      | no =>
        rw [e3] at c3
        exact c3
  · have e : i = items.length := by omega
    subst e
    rw [List.drop_length] at c1
    exact .inl ⟨wk.stop H1 sF1 S1.sL, c1 σ1 F1 H1 A1 S1 (Pur.refl S1.sF).step0 Wr.refl⟩
end

/-! ### what is walked -/
/-- a source: its items, in the state as it stands -/
inductive Ri where
  | ok (ts : List T) | ex (x : Ex) | no
/-- a walk over what is told by g; the slots that own are hidden from it, so that what it tells lies in F and L -/
def hideO : En → En
  | [] => []
  | some (.f d) :: en => some (.f d) :: hideO en
  | some (.n .lk k ts) :: en => some (.n .lk k ts) :: hideO en
  | some (.n .ow _ _) :: en => none :: hideO en
  | none :: en => none :: hideO en
theorem Slots.hide {F L H : Hp} : ∀ {σ : L2.St} {en : En} {A : Fp}, Slots K F L H σ en A → Slots K F L H σ (hideO en) fe
  | [], [], A, h => rfl
  | o :: σ, some (.f d) :: en, A, h => by
    obtain ⟨A1, A2, rfl, b, c, d'⟩ := h
    refine ⟨fe, fe, fu_e.symm, e_dj, ?_, Slots.hide d'⟩
    cases o with
    | none => exact c.elim
    | some v =>
      have c' : Rep K F L H (.f d) v A1 := c
      unfold Rep at c'
      show Rep K F L H (.f d) v fe
      unfold Rep
      exact ⟨rfl, c'.2⟩
  | o :: σ, some (.n .lk k ts) :: en, A, h => by
    obtain ⟨A1, A2, rfl, b, c, d'⟩ := h
    refine ⟨fe, fe, fu_e.symm, e_dj, ?_, Slots.hide d'⟩
    cases o with
    | none => exact c.elim
    | some v =>
      have c' : Rep K F L H (.n .lk k ts) v A1 := c
      unfold Rep at c'
      obtain ⟨p, vs, h1, _, h2, h3⟩ := c'
      show Rep K F L H (.n .lk k ts) v fe
      unfold Rep
      exact ⟨p, vs, h1, rfl, h2, h3⟩
  | o :: σ, some (.n .ow k ts) :: en, A, h => by
    obtain ⟨A1, A2, rfl, b, c, d⟩ := h
    exact ⟨fe, fe, fu_e.symm, e_dj, rfl, Slots.hide d⟩
  | o :: σ, none :: en, A, h => by
    obtain ⟨A1, A2, rfl, b, c, d⟩ := h
    exact ⟨fe, fe, fu_e.symm, e_dj, rfl, Slots.hide d⟩
  | [], _ :: _, A, h => h.elim
  | _ :: _, [], A, h => h.elim
theorem Stk.hide {F L H : Hp} {σ : L2.St} {en : En} {A : Fp} (S : Stk K F L H σ en A) : Stk K F L H σ (hideO en) fe := ⟨S.sl.hide, S.sF, S.sL, fun _ z => z.elim, fun _ z => z.elim⟩
/-- a source of items, changing nothing: wi walks what g tells -/
structure IE (X : Cx) (W : Wt) (g : En → Ri) (tg iter : Expr) : Prop where
  ex : ∃ wi, PI X tg iter wi ∧ ∀ (F L H : Hp) (A : Fp) (σ : L2.St) (en : En) (R : It → Hp → Prop), Stk (gx X W) F L H σ en A → (match g en with
    | .ok ts => ∀ J F' H', Pur F H F' H' → Wk (gx X W) F' L J ts → R J H'
    | .ex x => ∀ cls d F' H', Pur F H F' H' → ExRep (gx X W) F' cls d x → W.w cls d σ H'
    | .no => False) → wi σ H R
section
variable {X : Cx} {W : Wt} {e iter tg : Expr} {es : List Expr} {pos : Pos} {k : Nat} {g : En → Ri} {gv : En → Rv} {gs : En → Rvs} {b : T → En → Option En} {s : En → So} {w1 w2 : List Nat} {body : List Stmt}
def sFor (g : En → Ri) (b : T → En → Option En) (s : En → So) : En → So := fun en => match g en with
  | .ok ts => lp b s ts en
  | .ex x => .ex x en
  | .no => .no
theorem SE.for_ (C : Cxt k X W) (hp : PassesOwn (model X.prog X.w) X.A X.env X.xe) (hi : IE X W g tg iter) (hg : GE X W b w1 tg) (hb : SEs X W s w2 body) (hs : ∀ x, foldedSetIterable iter X.env x = pure x := by intro _; rfl) : SE X W (sFor g b s) (w1 ++ w2) (.For tg iter body [] pos) := by
  obtain ⟨wi, pi, hw⟩ := hi.ex
  refine ps_imp (ps_for hp C.cal pi hg hb hs) fun D σ H q => ?_
  obtain ⟨F, L, A, en, S, q⟩ := q
  refine hw F L H A σ en _ S ?_
  unfold sFor at q
  cases e1 : g en with
  | no =>
    rw [e1] at q
    exact q
  | ex x =>
    rw [e1] at q
    exact fun cls d F' H' p er => q cls d σ F' H' A (S.pur p) er p.step0 Wr.refl
  | ok ts =>
    rw [e1] at q
    intro J F' H' p wk
    exact for_walk wk (S.pur p) (Cl.on p.step0 Wr.refl (fun _ z => z) q)
end
theorem vw_fe {L H : Hp} : vw L H fe = L := funext fun a => vw_out fun z => z
/-- an item as a loop hands it on: frozen, or a view -/
def itm : T → Option T
  | .f d => some (.f d)
  | .n .lk k ts => some (.n .lk k ts)
  | .n .ow k ts => if noLk (.n .ow k ts) = true then some (.f (era (.n .ow k ts))) else none
def itms : List T → Option (List T)
  | [] => some []
  | t :: ts => (itm t).bind fun u => (itms ts).map (u :: ·)
theorem itms_f : ∀ ds : List D, itms (ds.map T.f) = some (ds.map T.f)
  | [] => rfl
  | d :: ds => by
    show ((itms (ds.map T.f)).map (T.f d :: ·)) = _
    rw [itms_f ds]
    rfl
theorem itm_rep {F F' L H : Hp} {t u : T} {v : V} {A : Fp} (e : itm t = some u) (h : Rep K F L H t v A) (eF : Le F F') (eH : ∀ p, A p → F' p = H p) : Rep K F' L H u v fe := by
  cases t with
  | f d =>
    cases e
    unfold Rep at h ⊢
    exact ⟨rfl, RepD.mono eF d v h.2⟩
  | n m k ts =>
    cases m with
    | lk =>
      cases e
      unfold Rep at h ⊢
      obtain ⟨p, vs, a, b, c, d⟩ := h
      exact ⟨p, vs, a, rfl, c, Reps.keep eF (Le.refl L) ts vs fe (fun _ _ => rfl) d⟩
    | ow =>
      have e' : (if noLk (.n .ow k ts) = true then some (T.f (era (.n .ow k ts))) else none) = some u := e
      by_cases nl : noLk (.n .ow k ts) = true
      · rw [if_pos nl] at e'
        cases e'
        have q := Rep.freeze eF _ v A nl eH h
        unfold Rep
        exact ⟨rfl, q⟩
      · rw [if_neg nl] at e'
        cases e'
theorem itms_reps {F F' L H : Hp} (eF : Le F F') : ∀ {ts us : List T} {vs : List V} {A : Fp}, itms ts = some us → Reps K F L H ts vs A → (∀ p, A p → F' p = H p) → Reps K F' L H us vs fe
  | [], us, vs, A, e, h, eH => by
    cases e
    unfold Reps at h ⊢
    exact ⟨h.1, rfl⟩
  | t :: ts, us, vs, A, e, h, eH => by
    unfold itms at e
    cases e1 : itm t with
    | none =>
      rw [e1] at e
      cases e
    | some u =>
      rw [e1] at e
      cases e2 : itms ts with
      | none =>
        rw [e2] at e
        cases e
      | some us' =>
        rw [e2] at e
        cases e
        unfold Reps at h ⊢
        obtain ⟨v, ws, A1, A2, rfl, rfl, c, d, r⟩ := h
        exact ⟨v, ws, fe, fe, rfl, fu_e.symm, e_dj, itm_rep e1 d eF (fun p z => eH p (.inl z)), itms_reps eF e2 r fun p z => eH p (.inr z)⟩
/-- a list's or a tuple's parts, to be walked -/
def seqT (t : T) : Option (Bool × List T) := match kids t with
  | some (.lst, ts) => (itms ts).map fun us => (true, us)
  | some (.scr, ts) => (itms ts).map fun us => (true, us)
  | some (.tup, ts) => (itms ts).map fun us => (false, us)
  | _ => none
theorem wkL {F L H0 : Hp} {p : Addr} {vs : List V} {us : List T} (h : ∀ H, Same F H → Same L H → SqL K.K H p vs) (r : Reps K F L H0 us vs fe) : Wk K F L (Itl K.K p) us where
  go := fun i H hi sF sL => by
    rw [Reps.length r] at hi
    exact ⟨vs, vs[i], h H sF sL, by simp [hi]⟩
  yld := fun i H x H' sF sL y => by
    obtain ⟨rfl, y⟩ := y
    refine ⟨Same.refl _, fun t e => ?_⟩
    obtain ⟨w, B, h1, h2, h3⟩ := Reps.get r e
    have e2 := y vs (h _ sF sL)
    rw [h1] at e2
    cases e2
    exact ⟨B, Rep.keep (Le.refl F) (Le.refl L) t _ B (fun q z => (h3 q z).elim) h2, fun q z => (h3 q z).elim⟩
  stop := fun H sF sL => ⟨vs, h H sF sL, by rw [Reps.length r]; exact Nat.le_refl _⟩
theorem wkT {F L H0 : Hp} {p : Addr} {vs : List V} {us : List T} (h : ∀ H, Same F H → Same L H → SqT K.K H p vs) (r : Reps K F L H0 us vs fe) : Wk K F L (Itt K.K p) us where
  go := fun i H hi sF sL => by
    rw [Reps.length r] at hi
    exact ⟨vs, vs[i], h H sF sL, by simp [hi]⟩
  yld := fun i H x H' sF sL y => by
    obtain ⟨rfl, y⟩ := y
    refine ⟨Same.refl _, fun t e => ?_⟩
    obtain ⟨w, B, h1, h2, h3⟩ := Reps.get r e
    have e2 := y vs (h _ sF sL)
    rw [h1] at e2
    cases e2
    exact ⟨B, Rep.keep (Le.refl F) (Le.refl L) t _ B (fun q z => (h3 q z).elim) h2, fun q z => (h3 q z).elim⟩
  stop := fun H sF sL => ⟨vs, h H sF sL, by rw [Reps.length r]; exact Nat.le_refl _⟩
/-- a tree's own nodes are laid to what is frozen; its parts may be walked -/
theorem seq_src {F L H : Hp} {t : T} {v : V} {B : Fp} {k : Kd} {ts us : List T} (r : Rep K F L H t v B) (e : kids t = some (k, ts)) (eu : itms ts = some us) (sF : Same F H) (nF : ∀ p, B p → F p = none) :
    ∃ p vs, v = .ref p ∧ Same F (frz F H B) ∧ Same (frz F H B) H ∧ (Ob K (frz F H B) p k vs ∨ Ob K L p k vs) ∧ Reps K (frz F H B) L H us vs fe := by
  have s1 : Same F (frz F H B) := frz_le nF
  have s2 : Same (frz F H B) H := frz_same sF
  cases t with
  | f d =>
    cases d with
    | a x => cases e
    | n k' ds =>
      unfold kids at e
      cases e
      unfold Rep RepD at r
      obtain ⟨_, p, vs, a, b, c⟩ := r
      rw [itms_f] at eu
      cases eu
      exact ⟨p, vs, a, s1, s2, .inl (b.mono (Le.of s1)), Reps.of_ds ds vs (RepDs.mono (Le.of s1) ds vs c)⟩
  | n m k' ts' =>
    unfold kids at e
    cases e
    cases m with
    | ow =>
      unfold Rep at r
      obtain ⟨p, vs, B', a, b, c, d, r'⟩ := r
      subst d
      exact ⟨p, vs, a, s1, s2, .inl (b.ob (frz_in (.inl rfl))), itms_reps (Le.of s1) eu r' fun q z => frz_in (.inr z)⟩
    | lk =>
      unfold Rep at r
      obtain ⟨p, vs, a, b, c, d⟩ := r
      exact ⟨p, vs, a, s1, s2, .inr c, itms_reps (Le.of s1) eu d fun q z => z.elim⟩
section
variable {X : Cx} {W : Wt} {e iter tg : Expr} {es : List Expr} {pos : Pos} {k : Nat} {g : En → Ri} {gv : En → Rv} {gs : En → Rvs}
theorem pi_or {wi wi' : TI} (h : PI X tg iter wi) (h' : PI X tg iter wi') : PI X tg iter (fun σ H R => wi σ H R ∨ wi' σ H R) := ⟨fun pins s σ H R I q => q.elim (h.run pins s σ H R I) (h'.run pins s σ H R I)⟩
/-- over a list, a tuple -/
def iSeq (g : En → Rv) : En → Ri := fun en => match g (hideO en) with
  | .ok t => (match seqT t with
    | some (_, us) => .ok us
    | none => .no)
  | .ex x => .ex x
  | .no => .no
theorem IE.seq (h : VE X W gv iter) : IE X W (iSeq gv) tg iter := ⟨_, pi_or (pi_list h) (pi_tup h), fun F L H A σ en R S q => by
  have S0 := S.hide
  unfold iSeq at q
  cases e1 : gv (hideO en) with
  | no =>
    rw [e1] at q
    exact q.elim
  | ex x =>
    rw [e1] at q
    refine .inl ⟨F, L, fe, hideO en, S0, ?_⟩
    rw [e1]
    exact q
  | ok t =>
    rw [e1] at q
    dsimp only at q
    have main : ∀ (k : Kd) (ts us : List T), kids t = some (k, ts) → itms ts = some us → ∀ (v : V) (F' H' : Hp) (B : Fp), Pur F H F' H' → Rep (gx X W) F' (vw L H' fe) H' t v B → (∀ p, B p → H p = none) → (∀ p, B p → F' p = none) →
        ∃ p vs F2, v = .ref p ∧ Pur F H F2 H' ∧ (∀ H2, Same F2 H2 → Same L H2 → Ob (gx X W) H2 p k vs) ∧ Reps (gx X W) F2 L H' us vs fe := by
      intro k ts us ek eu v F' H' B p r b c
      rw [vw_fe] at r
      obtain ⟨a, vs, h1, h2, h3, h4, h5⟩ := seq_src r ek eu p.s c
      refine ⟨a, vs, _, h1, ⟨p.h, p.f.trans h2, fun x e n => ?_, h3⟩, fun H2 s1 s2 => ?_, h5⟩
      · by_cases z : B x
        · exact b x z
        · rw [frz_out z] at n
          exact p.g x e n
      · rcases h4 with h4 | h4
        · exact h4.mono (Le.of s1)
        · exact h4.mono (Le.of s2)
    cases e2 : seqT t with
    | none =>
      rw [e2] at q
      exact q.elim
    | some pr =>
      obtain ⟨isL, us⟩ := pr
      rw [e2] at q
      have fin : ∀ (k : Kd) (ts : List T), kids t = some (k, ts) → itms ts = some us → ∀ (J : Addr → It), (∀ p vs F2 H0, (∀ H2, Same F2 H2 → Same L H2 → Ob (gx X W) H2 p k vs) → Reps (gx X W) F2 L H0 us vs fe → Wk (gx X W) F2 L (J p) us) →
          tV (gx X W) gv W.w σ H fun x H1 => ∃ a vs, x = .ref a ∧ Ob (gx X W) H1 a k vs ∧ R (J a) H1 := by
        intro k ts ek eu J hJ
        refine ⟨F, L, fe, hideO en, S0, ?_⟩
        rw [e1]
        intro v F' H' B p r b c
        obtain ⟨a, vs, F2, h1, h2, h3, h4⟩ := main k ts us ek eu v F' H' B p r b c
        exact ⟨a, vs, h1, h3 H' h2.s (S.sL.trans h2.h), q (J a) F2 H' h2 (hJ a vs F2 H' h3 h4)⟩
      have weak : ∀ {Q Q' : VK}, (∀ v H', Q v H' → Q' v H') → tV (gx X W) gv W.w σ H Q → tV (gx X W) gv W.w σ H Q' := fun {Q Q'} i ⟨F0, L0, A0, en0, S1, q1⟩ => ⟨F0, L0, A0, en0, S1, by
        cases e9 : gv en0 with
        | ok t => rw [e9] at q1; exact fun v F' H' B p r b c => i _ _ (q1 v F' H' B p r b c)
        | ex x => rw [e9] at q1; exact q1
        | no => rw [e9] at q1; exact q1⟩
      unfold seqT at e2
      split at e2
      · rename_i ts ek
        cases e3 : itms ts with
        | none =>
          rw [e3] at e2
          cases e2
        | some us' =>
          rw [e3] at e2
          cases e2
          exact .inl (weak (fun v H' ⟨a, vs, h1, h2, h3⟩ => ⟨a, h1, ⟨vs, SqL.of h2⟩, h3⟩) (fin .lst ts ek e3 (Itl X.K) fun p vs F2 H0 h r => wkL (fun H2 s1 s2 => SqL.of (h H2 s1 s2)) r))
      · rename_i ts ek
        cases e3 : itms ts with
        | none =>
          rw [e3] at e2
          cases e2
        | some us' =>
          rw [e3] at e2
          cases e2
          exact .inl (weak (fun v H' ⟨a, vs, h1, h2, h3⟩ => ⟨a, h1, ⟨vs, h2⟩, h3⟩) (fin .scr ts ek e3 (Itl X.K) fun p vs F2 H0 h r => wkL (fun H2 s1 s2 => h H2 s1 s2) r))
      · rename_i ts ek
        cases e3 : itms ts with
        | none =>
          rw [e3] at e2
          cases e2
        | some us' =>
          rw [e3] at e2
          cases e2
          exact .inr (weak (fun v H' ⟨a, vs, h1, h2, h3⟩ => ⟨a, h1, ⟨vs, h2⟩, h3⟩) (fin .tup ts ek e3 (Itt X.K) fun p vs F2 H0 h r => wkT (fun H2 s1 s2 => h H2 s1 s2) r))
      · cases e2⟩
end
/-! ### ranges -/
def rngI : List T → Option (List T)
  | [.f (.a (.int j))] => if -(2 ^ 62) ≤ j ∧ j < 2 ^ 62 then some ((List.range j.toNat).map fun i : Nat => T.i (i : Int)) else none
  | [.f (.a (.int i)), .f (.a (.int j))] => if (-(2 ^ 62) ≤ i ∧ i < 2 ^ 62) ∧ -(2 ^ 62) ≤ j ∧ j < 2 ^ 62 then some ((List.range (j - i).toNat).map fun k : Nat => T.i (i + (k : Int))) else none
  | _ => none
def iRng (gs : En → Rvs) : En → Ri := fun en => match gs en with
  | .ok ts => (match rngI ts with
    | some us => .ok us
    | none => .no)
  | .ex x => .ex x
  | .no => .no
theorem wkR {F L : Hp} {lo : Int} {n : Nat} : Wk K F L (Itr lo n) ((List.range n).map fun i : Nat => T.i (lo + (i : Int))) where
  go := fun i H hi _ _ => by
    rw [List.length_map, List.length_range] at hi
    exact hi
  yld := fun i H x H' _ _ y => by
    obtain ⟨rfl, rfl⟩ := y
    refine ⟨Same.refl _, fun t e => ?_⟩
    rw [List.getElem?_map] at e
    obtain ⟨j, h1, h2⟩ := Option.map_eq_some_iff.mp e
    obtain ⟨h3, h4⟩ := List.getElem?_eq_some_iff.mp h1
    rw [List.getElem_range] at h4
    subst h4 h2
    exact ⟨fe, Rep.of_flat (x := .int (lo + (i : Nat))), fun _ z => z.elim⟩
  stop := fun H _ _ => by
    rw [List.length_map, List.length_range]
    exact Nat.le_refl n
theorem Reps.ints {F L H : Hp} {i j : Int} {vs : List V} {A : Fp} (h : Reps K F L H [T.i i, T.i j] vs A) : vs = [.int i, .int j] ∧ A = fe := by
  unfold Reps at h
  obtain ⟨v, ws, A1, A2, rfl, rfl, _, h1, h2⟩ := h
  unfold Reps at h2
  obtain ⟨v2, ws2, A3, A4, rfl, rfl, _, h3, h4⟩ := h2
  unfold Reps at h4
  obtain ⟨rfl, rfl⟩ := h4
  obtain ⟨rfl, rfl⟩ := h1.flat
  obtain ⟨rfl, rfl⟩ := h3.flat
  exact ⟨rfl, by rw [fu_e, fu_e]⟩
theorem Reps.one {F L H : Hp} {t : T} {vs : List V} {A : Fp} (h : Reps K F L H [t] vs A) : ∃ v, vs = [v] ∧ Rep K F L H t v A := by
  unfold Reps at h
  obtain ⟨v, ws, A1, A2, rfl, rfl, _, h1, h2⟩ := h
  unfold Reps at h2
  obtain ⟨rfl, rfl⟩ := h2
  rw [fu_e]
  exact ⟨v, rfl, h1⟩
section
variable {X : Cx} {W : Wt} {a c tg : Expr} {pos p : Pos} {gs : En → Rvs}
theorem tVA_of {W : WX} {gs : En → Rvs} {σ : L2.St} {H : Hp} {Q : List V → Hp → Prop} {F L : Hp} {A : Fp} {en : En} (S : Stk K F L H σ en A) (q : match gs en with
  | .ok ts => ∀ vs F' H' B, Pur F H F' H' → Reps K F' (vw L H' A) H' ts vs B → (∀ p, B p → H p = none) → (∀ p, B p → F' p = none) → Q vs H'
  | .ex x => ∀ cls d F' H', Pur F H F' H' → ExRep K F' cls d x → W cls d σ H'
  | .no => False) : tVA K gs W σ H Q := ⟨F, L, A, en, S, q⟩
theorem IE.rng1 (hm : X.mg "range" = none) (ha : AE X W gs [a]) (hg : Gl X "range" := by rfl) (hs : starEach [a] X.env = [(false, eval a X.env)] := by rfl) : IE X W (iRng gs) tg (.Call (.Name "range" p) [a] [] pos) := ⟨_, pi_range1 hg hm ha.pa hs, fun F L H A σ en R S q => by
  unfold iRng at q
  refine tVA_of S ?_
  cases e1 : gs en with
  | no =>
    rw [e1] at q
    exact q.elim
  | ex x =>
    rw [e1] at q
    exact q
  | ok ts =>
    rw [e1] at q
    intro vs F' H' B pu r b c
    have hl := ha.len en ts e1
    dsimp only at q
    cases e2 : rngI ts with
    | none =>
      rw [e2] at q
      exact q.elim
    | some us =>
      rw [e2] at q
      unfold rngI at e2
      split at e2
      · rename_i j
        split at e2
        · rename_i hj
          cases e2
          obtain ⟨v, rfl, h1⟩ := Reps.one r
          obtain ⟨rfl, _⟩ := h1.flat
          refine ⟨j, rfl, hj.1, hj.2, q (Itr 0 j.toNat) F' H' pu ?_⟩
          have z := wkR (K := gx X W) (F := F') (L := L) (lo := 0) (n := j.toNat)
          have e : (fun i : Nat => T.i (0 + (i : Int))) = fun i : Nat => T.i (i : Int) := funext fun i => by rw [Int.zero_add]
          rw [e] at z
          exact z
        · cases e2
      · simp at hl
      · cases e2⟩
theorem IE.rng2 (hm : X.mg "range" = none) (ha : AE X W gs [a, c]) (hg : Gl X "range" := by rfl) (hs : starEach [a, c] X.env = [(false, eval a X.env), (false, eval c X.env)] := by rfl) (hs2 : starEach [c] X.env = [(false, eval c X.env)] := by rfl) : IE X W (iRng gs) tg (.Call (.Name "range" p) [a, c] [] pos) := ⟨_, pi_range2 hg hm ha.pa hs hs2, fun F L H A σ en R S q => by
  unfold iRng at q
  refine tVA_of S ?_
  cases e1 : gs en with
  | no =>
    rw [e1] at q
    exact q.elim
  | ex x =>
    rw [e1] at q
    exact q
  | ok ts =>
    rw [e1] at q
    intro vs F' H' B pu r b c
    have hl := ha.len en ts e1
    dsimp only at q
    cases e2 : rngI ts with
    | none =>
      rw [e2] at q
      exact q.elim
    | some us =>
      rw [e2] at q
      unfold rngI at e2
      split at e2
      · simp at hl
      · rename_i i j
        split at e2
        · rename_i hj
          cases e2
          obtain ⟨rfl, _⟩ := Reps.ints r
          exact ⟨i, j, rfl, ⟨hj.1.1, hj.1.2, hj.2.1, hj.2.2⟩, q (Itr i (j - i).toNat) F' H' pu wkR⟩
        · cases e2
      · cases e2⟩
end

/-! ### while -/
def wh (p : En → Rb) (s : En → So) : Nat → En → So
  | 0, _ => .no
  | n + 1, en => match p en with
    | .ok false => .nx en
    | .ok true => (match s en with
      | .nx e => wh p s n e
      | .bk e => .nx e
      | r => r)
    | .ex x => .ex x en
    | .no => .no
theorem wh_more (p : En → Rb) (s : En → So) : ∀ (n : Nat) (en : En), wh p s n en ≠ .no → ∀ m, n ≤ m → wh p s m en = wh p s n en
  | 0, en, h, m, _ => absurd rfl h
  | n + 1, en, h, 0, l => by omega
  | n + 1, en, h, m + 1, l => by
    unfold wh at h ⊢
    cases e1 : p en with
    | ok b =>
      rw [e1] at h
      cases b with
      | false => rfl
      | true =>
        dsimp only at h ⊢
        cases e2 : s en with
        | nx e =>
          rw [e2] at h
          exact wh_more p s n e h m (by omega)
        | rt t e => rfl
        | bk e => rfl
        | ex x e => rfl
        | no => rfl
    | ex x => rfl
    | no => rfl
open Classical in
noncomputable def sWh (p : En → Rb) (s : En → So) : En → So := fun en => if h : ∃ n, wh p s n en ≠ .no then wh p s h.choose en else .no
theorem sWh_of {p : En → Rb} {s : En → So} {en : En} {n : Nat} {r : So} (h : wh p s n en = r) (hr : r ≠ .no) : sWh p s en = r := by
  have z : ∃ n, wh p s n en ≠ .no := ⟨n, by rw [h]; exact hr⟩
  unfold sWh
  rw [dif_pos z]
  have h1 := z.choose_spec
  rcases Nat.le_total n z.choose with l | l
  · rw [wh_more p s n en (by rw [h]; exact hr) _ l, h]
  · rw [← wh_more p s z.choose en h1 n l, h]
theorem sWh_at {p : En → Rb} {s : En → So} {en : En} (h : sWh p s en ≠ .no) : ∃ n, wh p s n en = sWh p s en := by
  unfold sWh at h ⊢
  split at h
  · rename_i z
    rw [dif_pos z]
    exact ⟨_, rfl⟩
  · exact absurd rfl h
section
variable {X : Cx} {W : Wt} {c : Expr} {pos : Pos} {k : Nat} {p : En → Rb} {s : En → So} {ws : List Nat} {body : List Stmt}
theorem while_walk {W : WX} {σ0 : L2.St} {D : Ends} : ∀ (n : Nat) (F L H : Hp) (A : Fp) (σ : L2.St) (en : En), Stk K F L H σ en A → Cl K F L H A σ W ws D (wh p s n en) →
    tT K p W σ H fun b H1 => if b = true then tS K s W ws { D with nx := fun σ' H' => ∃ m F' L' A' en', m < n ∧ Stk K F' L' H' σ' en' A' ∧ Cl K F' L' H' A' σ' W ws D (wh p s m en'), ct := fun σ' H' => ∃ m F' L' A' en', m < n ∧ Stk K F' L' H' σ' en' A' ∧ Cl K F' L' H' A' σ' W ws D (wh p s m en'), bk := D.nx } σ H1 else D.nx σ H1
  | 0, F, L, H, A, σ, en, S, c => c.elim
  | n + 1, F, L, H, A, σ, en, S, c => by
    refine ⟨F, L, A, en, S, ?_⟩
    unfold wh at c
    cases e1 : p en with
    | no =>
      rw [e1] at c
      exact c
    | ex x =>
      rw [e1] at c
      exact fun cls d F' H' pu er => c cls d σ F' H' A (S.pur pu) er pu.step0 Wr.refl
    | ok b =>
      rw [e1] at c
      intro F1 H1 pu
      cases b with
      | false =>
        rw [if_neg Bool.false_ne_true]
        exact c σ F1 H1 A (S.pur pu) pu.step0 Wr.refl
      | true =>
        rw [if_pos rfl]
        refine ⟨F1, L, A, en, S.pur pu, ?_⟩
        dsimp only at c
        have c1 := Cl.on pu.step0 Wr.refl (fun _ z => z) c
        cases e2 : s en with
        | nx e =>
          rw [e2] at c1
          exact fun σ' F' H' A' S' st wr => ⟨n, F', L, A', e, Nat.lt_succ_self n, S', Cl.on st wr (fun _ z => z) c1⟩
        | rt t e =>
          rw [e2] at c1
          exact c1
        | bk e =>
          rw [e2] at c1
          exact c1
        | ex x e =>
          rw [e2] at c1
          exact c1
        | no =>
          rw [e2] at c1
          exact c1
theorem SE.while_ (hp : PassesOwn (model X.prog X.w) X.A X.env X.xe) (hc : VT X W p c) (hb : SEs X W s ws body) : SE X W (sWh p s) ws (.While c body [] pos) := ps_imp (ps_while hp hc hb) fun D σ H q => by
  obtain ⟨F, L, A, en, S, q⟩ := q
  have hn : sWh p s en ≠ .no := fun e => by
    rw [e] at q
    exact q
  obtain ⟨n, e⟩ := sWh_at hn
  rw [← e] at q
  refine ⟨fun m σ' H' => ∃ F' L' A' en', Stk (gx X W) F' L' H' σ' en' A' ∧ Cl (gx X W) F' L' H' A' σ' W.w ws D (wh p s m en'), ⟨n, F, L, A, en, S, q⟩, ?_⟩
  rintro m σ1 H1 ⟨F1, L1, A1, en1, S1, c1⟩
  obtain ⟨F2, L2, A2, en2, S2, c2⟩ := while_walk (σ0 := σ) m F1 L1 H1 A1 σ1 en1 S1 c1
  refine ⟨F2, L2, A2, en2, S2, ?_⟩
  cases e3 : p en2 with
  | no =>
    rw [e3] at c2
    exact c2
  | ex x =>
    rw [e3] at c2
    exact c2
  | ok b =>
    rw [e3] at c2
    intro F' H' pu
    have c3 := c2 F' H' pu
    cases b with
    | false => exact c3
    | true =>
      rw [if_pos rfl] at c3 ⊢
      exact ⟨_, fun σ' H' ⟨m', F3, L3, A3, en3, hm, S3, c4⟩ => ⟨m', hm, F3, L3, A3, en3, S3, c4⟩, c3⟩
end
end DT
/-! Data trees, part 9: exceptions. -/
namespace DT
open PySem L2
variable {K : Gx}

/-! ### what the top says of a class of errors -/
def oexB (K : PySem.W.Frag) (C : Addr) : Bool := match K.lookup C with
  | some ⟨.type "type", _, .cls cd, sl⟩ => (match cd.mro, sl.toList with
    | .ref C' :: bm, [_, _, _, _, some (.builtin n), _] => C' == C && n == "ValueError.__new__" && !cd.hasDel && cd.hasDict && PySem.HandSPX.refsVE bm
    | _, _ => false)
  | _ => false
theorem oexB_ok {K : PySem.W.Frag} {C : Addr} (q : oexB K C = true) : ∃ nm q N bs bm sn sub ab col dd k0 k1 k2 k3 k5, K.lookup C = some (PySem.excClassObj nm q C N bs bm true sn sub ab col dd k0 k1 k2 k3 k5 "ValueError.__new__") ∧ PySem.HandSPX.refsVE bm = true := by
  unfold oexB at q
  split at q
  · rename_i dd cd sl ho
    split at q
    · rename_i C' bm k0 k1 k2 k3 n k5 hm hs
      simp only [Bool.and_eq_true, beq_iff_eq, Bool.not_eq_true'] at q
      obtain ⟨⟨⟨⟨rfl, rfl⟩, hdel⟩, hd⟩, ht⟩ := q
      obtain ⟨nm, bs, mro, ns, qn, hd', sn, sub, ab, col, del⟩ := cd
      dsimp only at hm hdel hd
      subst hm hdel hd
      have hsl : sl = #[k0, k1, k2, k3, some (.builtin "ValueError.__new__"), k5] := by
        obtain ⟨l⟩ := sl
        simp only at hs
        rw [hs]
      subst hsl
      exact ⟨nm, qn, ns, bs, bm, sn, sub, ab, col, dd, k0, k1, k2, k3, k5, ho, ht⟩
    · cases q
  · cases q
def xcB (K : PySem.W.Frag) (c : String) : Bool := oexB K (cA K c) && (decide (PySem.W.findIn K (.ref (cA K c)) "__setattr__" = some (some (.builtin "object.__setattr__"))) && (decide (PySem.W.subIn K (.ref (cA K c)) (.type "BaseException") = some true) &&
  (decide (PySem.W.typeIn K (.ref (cA K c)) = some (.type "type")) && (PySem.W.keepIn K (.ref (cA K c)) && (xfB K (cA K c) && (decide (PySem.W.findIn K (.ref (cA K c)) "__class__" = some (some (.builtin "object.__class__"))) &&
  (decide (PySem.W.specialIn K (.builtin "object.__class__") "__get__" = some (some (.builtin "getset_descriptor.__get__"))) && (decide (PySem.W.takesIn K (.builtin "object.__class__") = some true) && decide (PySem.W.mroIn K (cA K c) (.type "object") = some true)))))))))
structure XcC (K : PySem.W.Frag) (c : String) : Prop where
  oe : OexC K (cA K c)
  xf : XfC K (cA K c)
  ex : ExcC K (cA K c)
theorem and2 {a b : Bool} (h : (a && b) = true) : a = true ∧ b = true := Bool.and_eq_true_iff.mp h
theorem xcB_ok {K : PySem.W.Frag} {c : String} (h : xcB K c = true) : XcC K c := by
  unfold xcB at h
  obtain ⟨h1, h⟩ := and2 h
  obtain ⟨h2, h⟩ := and2 h
  obtain ⟨h3, h⟩ := and2 h
  obtain ⟨h4, h⟩ := and2 h
  obtain ⟨h5, h⟩ := and2 h
  obtain ⟨h6, h⟩ := and2 h
  obtain ⟨h7, h⟩ := and2 h
  obtain ⟨h8, h⟩ := and2 h
  obtain ⟨h9, h10⟩ := and2 h
  have x := xfB_ok h6
  exact ⟨⟨oexB_ok h1, of_decide_eq_true h2, of_decide_eq_true h3, of_decide_eq_true h4, h5⟩, x,
    ⟨x.ga, x.gg, x.exC, x.hdC, of_decide_eq_true h7, of_decide_eq_true h8, of_decide_eq_true h9, of_decide_eq_true h10⟩⟩

/-! ### an __init__ that keeps its arguments -/
def xfs (fis : List (Str × Nat)) (ws : List V) : List (Str × V) := (fis.map fun p => (p.1, ws.getD p.2 .non)).reverse
def spX (K : PySem.W.Frag) (n : Nat) (fis : List (Str × Nat)) : Sp := fun vs H Q _ => ∃ (a C : Addr) (ws : List V), vs = .ref a :: ws ∧ ws.length = n ∧ OexC K C ∧ (∀ p ∈ fis, PySem.W.findIn K (.ref C) p.1 = some none) ∧ H a = some (exo a C none) ∧
  ∀ d, H d = none → d ≠ a → Q .non (upd (upd H d (exd d (xfs fis ws))) a (exo a C (some d)))
inductive InitB (X : Cx) : List (Str × Nat) → List Stmt → Prop
  | nil : InitB X [] []
  | cons {f : Str} {i : Nat} {o e : Expr} {p pos : Pos} {r : List (Str × Nat)} {rest : List Stmt} (ho : PE X o (tVar 0)) (he : PE X e (tVar (i + 1))) (hs : swapsWith e (some (.Attribute o f p)) pos.line X.env = pure false) (h : InitB X r rest) :
      InitB X ((f, i) :: r) (.Assign [.Attribute o f p] e pos :: rest)
def tIni (K : PySem.W.Frag) : List (Str × Nat) → TS
  | [] => tNext
  | (f, i) :: r => tSeq (tOst K f (tVar 0) (tVar (i + 1))) (tIni K r)
theorem InitB.pss {X : Cx} {fis : List (Str × Nat)} {body : List Stmt} (h : InitB X fis body) : PSs X body (tIni X.K fis) := by
  induction h with
  | nil => exact pss_nil
  | cons ho he hs _ ih => exact pss_cons (ps_ost ho he hs) ih
theorem upd_id {H : Hp} {a : Addr} {o : HO} (h : H a = some o) : upd H a o = H := funext fun b => by
  by_cases e : b = a
  · rw [e, upd_same, h]
  · rw [upd_ne e]
theorem upd_upd {H : Hp} {a : Addr} {o u : HO} : upd (upd H a o) a u = upd H a u := funext fun b => by
  by_cases e : b = a
  · rw [e, upd_same, upd_same]
  · rw [upd_ne e, upd_ne e, upd_ne e]
theorem upd_swap {H : Hp} {a b : Addr} {o u : HO} (n : a ≠ b) : upd (upd H a o) b u = upd (upd H b u) a o := funext fun x => by
  by_cases e : x = a
  · subst e
    rw [upd_ne n, upd_same, upd_same]
  · by_cases e2 : x = b
    · subst e2
      rw [upd_same, upd_ne e, upd_same]
    · rw [upd_ne e2, upd_ne e, upd_ne e, upd_ne e2]
theorem tIni_more {K : PySem.W.Frag} {a C d : Addr} {σ : L2.St} {ws : List V} {R : VK} {B Ct : L2.St → Hp → Prop} (T : OexC K C) (h0 : σ[0]? = some (some (.ref a))) : ∀ (fis : List (Str × Nat)) (done : List (Str × V)) (H : Hp) (D : Ends),
    (∀ p ∈ fis, σ[p.2 + 1]? = some (some (ws.getD p.2 .non))) → (∀ p ∈ fis, PySem.W.findIn K (.ref C) p.1 = some none) → H a = some (exo a C (some d)) → H d = some (exd d done) → d ≠ a → done.length + fis.length ≤ 900 →
    D.nx σ (upd H d (exd d (xfs fis ws ++ done))) → tIni K fis D σ H
  | [], done, H, D, hw, hno, ea, ed, nd, hl, q => by
    show D.nx σ H
    have e : upd H d (exd d (xfs [] ws ++ done)) = H := upd_id ed
    rw [e] at q
    exact q
  | (f, i) :: r, done, H, D, hw, hno, ea, ed, nd, hl, q => by
    have hl' : done.length + (r.length + 1) ≤ 900 := hl
    refine ⟨_, hw (f, i) List.mem_cons_self, .ref a, h0, a, C, rfl, T, hno (f, i) List.mem_cons_self, .inr ⟨d, done, ea, ed, by omega, ?_⟩⟩
    refine tIni_more (R := R) (B := B) (Ct := Ct) T h0 r ((f, ws.getD i .non) :: done) _ D (fun p hp => hw p (List.mem_cons_of_mem _ hp)) (fun p hp => hno p (List.mem_cons_of_mem _ hp)) (by rw [upd_ne (Ne.symm nd)]; exact ea) upd_same nd (by
      show done.length + 1 + r.length ≤ 900
      omega) ?_
    rw [upd_upd]
    have e : xfs ((f, i) :: r) ws ++ done = xfs r ws ++ (f, ws.getD i .non) :: done := by
      show (((f, ws.getD i .non) :: (r.map fun p => (p.1, ws.getD p.2 .non))).reverse) ++ done = _
      rw [List.reverse_cons, List.append_assoc]
      rfl
    rw [← e]
    exact q
theorem init_ok {P : Program} {w : World} {K : PySem.W.Frag} {mg : Str → Option Value} {base : Heap} {x qual : Str} {params : Arguments} {body : List Stmt} {scope : Scope} {f : Addr} {fd : FuncData} {CX : CXT} {N ps : List Str} {n : Nat} {f1 : Str × Nat} {fis : List (Str × Nat)}
    (F : FunD K x qual params body scope [] [] f fd) (S : FnScope N ps scope) (hn : ps.length = n + 1) (hi : ∀ p ∈ f1 :: fis, p.2 < n) (hl : fis.length ≤ 800)
    (hb : ∀ (cdv : Value) (A : Around) (outer : List Env) (s : Shared) (H : Hp) (E : XK), InitB (cxOf CX P w K mg base N qual scope f cdv A outer s H E) (f1 :: fis) body) : FnOk P w K mg base CX 1 f fd ps (spX K n (f1 :: fis)) := by
  refine F.ok S (fun vs H Q E h => ?_) fun cdv A outer s H vs Q E hr h => ⟨tIni K (f1 :: fis), (hb cdv A outer s H E).pss, ?_⟩
  · obtain ⟨a, C, ws, rfl, e, _⟩ := h
    show ws.length + 1 = ps.length
    omega
  · obtain ⟨a, C, ws, rfl, hw, T, hno, ea, q⟩ := h
    have h0 : (L2.start N (.ref a :: ws))[0]? = some (some (.ref a)) := by
      unfold L2.start
      simp
    have hs : ∀ p ∈ f1 :: fis, (L2.start N (.ref a :: ws))[p.2 + 1]? = some (some (ws.getD p.2 .non)) := fun p hp => by
      have hlt : p.2 < ws.length := by rw [hw]; exact hi p hp
      unfold L2.start
      rw [List.getElem?_append_left (by simpa using hlt)]
      simp [hlt]
    refine ⟨_, hs f1 List.mem_cons_self, .ref a, h0, a, C, rfl, T, hno f1 List.mem_cons_self, .inl ⟨ea, fun d hd nd => ?_⟩⟩
    refine tIni_more (R := Q) (B := fun _ _ => True) (Ct := fun _ _ => True) T h0 fis [(f1.1, ws.getD f1.2 .non)] _ _ (fun p hp => hs p (List.mem_cons_of_mem _ hp)) (fun p hp => hno p (List.mem_cons_of_mem _ hp)) upd_same
      (by rw [upd_ne nd, upd_same]) nd (by show 1 + fis.length ≤ 900; omega) ?_
    show Q .non _
    have e : upd (upd (upd H d (exd d [(f1.1, ws.getD f1.2 .non)])) a (exo a C (some d))) d (exd d (xfs fis ws ++ [(f1.1, ws.getD f1.2 .non)])) = upd (upd H d (exd d (xfs (f1 :: fis) ws))) a (exo a C (some d)) := by
      rw [upd_swap (Ne.symm nd), upd_upd]
      have e2 : xfs (f1 :: fis) ws = xfs fis ws ++ [(f1.1, ws.getD f1.2 .non)] := by
        unfold xfs
        rw [List.map_cons, List.reverse_cons]
      rw [e2]
    rw [e]
    exact q d hd nd

/-! ### raise -/
def mkX (c : String) (fis : List (Str × Nat)) (ds : List D) : Ex := ⟨c, (fis.map (·.1)).reverse, (fis.map fun p => ds.getD p.2 (.a .non)).reverse⟩
def sRaise (c : String) (fis : List (Str × Nat)) (gs : En → Rvs) : En → So := fun en => match gs en with
  | .ok ts => (match allF ts with
    | some ds => .ex (mkX c fis ds) en
    | none => .no)
  | .ex x => .ex x en
  | .no => .no
theorem RepDs.get {F : Hp} : ∀ {ds : List D} {vs : List V}, RepDs K F ds vs → ∀ i, i < ds.length → RepD K F (ds.getD i (.a .non)) (vs.getD i .non)
  | [], vs, h, i, hi => by simp at hi
  | d :: ds, vs, h, i, hi => by
    unfold RepDs at h
    obtain ⟨v, ws, rfl, b, c⟩ := h
    cases i with
    | zero => exact b
    | succ i => exact RepDs.get c i (by simpa using hi)
theorem RepDs.length {F : Hp} : ∀ {ds : List D} {vs : List V}, RepDs K F ds vs → ds.length = vs.length
  | [], vs, h => by
    unfold RepDs at h
    rw [h]
    rfl
  | d :: ds, vs, h => by
    unfold RepDs at h
    obtain ⟨v, ws, rfl, b, c⟩ := h
    show ds.length + 1 = ws.length + 1
    rw [RepDs.length c]
theorem RepDs.append {F : Hp} : ∀ {ds es : List D} {vs ws : List V}, RepDs K F ds vs → RepDs K F es ws → RepDs K F (ds ++ es) (vs ++ ws)
  | [], es, vs, ws, h, h2 => by
    unfold RepDs at h
    rw [h]
    exact h2
  | d :: ds, es, vs, ws, h, h2 => by
    unfold RepDs at h
    obtain ⟨v, vs', rfl, b, c⟩ := h
    show RepDs K F (d :: (ds ++ es)) (v :: (vs' ++ ws))
    unfold RepDs
    exact ⟨v, vs' ++ ws, rfl, b, RepDs.append c h2⟩
theorem mkX_rep {F : Hp} {ds : List D} {vs : List V} {c : String} (h : RepDs K F ds vs) : ∀ (fis : List (Str × Nat)), (∀ p ∈ fis, p.2 < ds.length) →
    RepDs K F (mkX c fis ds).ds ((fis.map fun p => vs.getD p.2 .non).reverse) ∧ xfs fis vs = (mkX c fis ds).fs.zip ((fis.map fun p => vs.getD p.2 .non).reverse) ∧ (mkX c fis ds).fs.length = ((fis.map fun p => vs.getD p.2 .non).reverse).length
  | [], _ => ⟨by show RepDs K F [] []; unfold RepDs; rfl, rfl, rfl⟩
  | p :: r, hp => by
    obtain ⟨h1, h2, h3⟩ := mkX_rep (c := c) h r fun q hq => hp q (List.mem_cons_of_mem _ hq)
    refine ⟨?_, ?_, ?_⟩
    · show RepDs K F ((ds.getD p.2 (.a .non) :: r.map fun p => ds.getD p.2 (.a .non)).reverse) ((vs.getD p.2 .non :: r.map fun p => vs.getD p.2 .non).reverse)
      rw [List.reverse_cons, List.reverse_cons]
      refine RepDs.append h1 ?_
      unfold RepDs
      exact ⟨_, [], rfl, RepDs.get h p.2 (hp p List.mem_cons_self), by unfold RepDs; rfl⟩
    · show (((p.1, vs.getD p.2 .non) :: r.map fun p => (p.1, vs.getD p.2 .non)).reverse) = ((p.1 :: r.map (·.1)).reverse).zip ((vs.getD p.2 .non :: r.map fun p => vs.getD p.2 .non).reverse)
      rw [List.reverse_cons, List.reverse_cons, List.reverse_cons]
      have h4 : (r.map (·.1)).reverse.length = (r.map fun p => vs.getD p.2 .non).reverse.length := h3
      rw [List.zip_append h4]
      have h5 : (r.map fun p => (p.1, vs.getD p.2 .non)).reverse = (r.map (·.1)).reverse.zip (r.map fun p => vs.getD p.2 .non).reverse := h2
      rw [h5]
      rfl
    · simp [mkX]
section
variable {X : Cx} {W : Wt} {e a b c : Expr} {es : List Expr} {pos pos' p : Pos} {g : En → Rv} {gs : En → Rvs} {k : Nat}
/-- a new exception of our own, its __init__ run: nothing is handled, so its context is None -/
theorem pmk_oexN {Y : CXT} {C fI : Addr} {j : Nat} {fd : FuncData} {ps : List Str} {sp : Sp} {x : Str} {ta : TA} (T : OexC X.K C)
    (iC : PySem.W.findIn X.K (.ref C) "__init__" = some (some (.ref fI))) (tI : PySem.W.typeIn X.K (.ref fI) = some (.type "function"))
    (G : FnOk X.prog X.w X.K X.mg X.base Y j fI fd ps sp) (rm : Room (j + 1) X.A) (hb : Binds X.K fd ps []) (out : Passes Y X (fun _ _ _ => False))
    (hg : Gl X x) (hm : X.mg x = some (.ref C)) (as : PA X (e :: es) ta) (hdb : (x == ("__debug__" : Str)) = false := by decide)
    (he : starEach (e :: es) X.env = (false, eval e X.env) :: starEach es X.env := by rfl) (hpl : (backTo pos (starEach es X.env)).any (·.1) = false := by rfl) :
    L2N.PMk X (.Call (.Name x p) (e :: es) [] pos) (tMkO C sp [] ta) := by
  intro pins s σ H Q I h
  obtain ⟨c1, c2, c3, c4, c5, c6, c7, c8, c9, c10, c11, c12, c13, c14, c15, inC, bas⟩ := T.cls
  refine wpAny_Call_Name_kw (ld_glob I hg hm ?_ hdb)
  have behind := as.run pos pins s σ H _ I h
  refine PySem.W.callWith_K (h₀ := X.base) I.ok.mod.kin T.kC (thn behind fun vals t1 q => ?_) he hpl
  obtain ⟨vs, H1, J, rel, few, q⟩ := q
  refine ⟨J.kIn, ?_⟩
  obtain ⟨hp, gs, dr, tk, os⟩ := t1
  show wpAny _ _ (call (.ref C) vals) _ _ _
  -- the new object stands one behind its arguments' tuple
  generalize hn : hp.objs.size + 1 = n
  have le : hp.objs.size ≤ n := by omega
  have free : H1 n = none := J.hok.fresh le
  have q0 := q n free
  rw [List.append_nil] at q0
  have grow : ∀ b o, hp.get? b = some o → ((hp.push (PySem.W.kdv_tup vals)).push (PySem.HandSPX.excO C hp.objs.size)).get? b = some o :=
    fun b o z => Heap.get?_push_of_some _ (Heap.get?_push_of_some _ z)
  have there : ((hp.push (PySem.W.kdv_tup vals)).push (PySem.HandSPX.excO C hp.objs.size)).get? n = some (PySem.HandSPX.excO C hp.objs.size) := by
    subst hn
    heap_get
  have J2 : Inv X pins σ (upd H1 n (exo n C none)) ⟨(hp.push (PySem.W.kdv_tup vals)).push (PySem.HandSPX.excO C hp.objs.size), gs, dr, tk, os⟩ :=
    J.laid (t' := tk) (a := n) (o := exo n C none) (h' := (hp.push (PySem.W.kdv_tup vals)).push (PySem.HandSPX.excO C hp.objs.size)) grow le (exo_ok there)
  have rel2 : Vals (V.ref n :: vs) (Value.ref n :: vals) := .cons rfl rel
  have cnt : (Value.ref n :: vals ++ []).length = ps.length := by
    have z := rel2.length
    rw [G.len _ _ _ _ q0] at z
    rw [List.append_nil]
    exact z.symm
  have small : vals.length ≤ sizeLine := by
    have z := Paired.length rel
    rw [sizeLine_eq]
    omega
  have bnd := hb ⟨(hp.push (PySem.W.kdv_tup vals)).push (PySem.HandSPX.excO C hp.objs.size), gs, dr, tk, os⟩ (Value.ref n :: vals) J2.kIn cnt
  rw [List.append_nil] at bnd
  subst hn
  have go := G.run _ X.stack _ _ ⟨Value.ref (hp.objs.size + 1) :: vals, []⟩ (Value.ref (hp.objs.size + 1) :: vals) _ _ (fun _ _ _ => False) (rm.make C vals []) (J2.env0.make C vals []) bnd rel2 q0
  refine wpAny_call (PySem.HandSPX.call_own F.excBase_ValueError (fun Y => PySem.HandSPX.refsVE_contains Y c5 bas) (J.kIn _ _ inC) (PySem.W.looks_findIn J.kIn iC) (fun self => PySem.W.bind_fn J.kIn self tI) small ?_)
  refine codeAny_mono go fun r t2 z => ?_
  match r with
  | .error er => exact out pins σ _ _ er t2 J2 z
  | .ok .next => exact z.elim
  | .ok .brk => exact z.elim
  | .ok .cont => exact z.elim
  | .ok (.ret u) =>
    obtain ⟨v, H2, o2, b2, n2, k2, rv, ev, d, fs, ea, ed, hd1, q2⟩ := z
    subst ev
    obtain ⟨h2, g2, d2, tk2, os'⟩ := t2
    obtain ⟨u0, B, J3, kB, gone, obj, no⟩ := mk_end0 (d2 := d2) (t2 := tk2) J le grow n2 k2 o2 b2 ea ed hd1
    exact ⟨rv, _, _, _, ⟨B, g2, d2, tk2, os'⟩, _, .ref C, some d, rfl, J3, kB, gone, obj, ⟨rfl, rfl, fun fs' e' => by cases e'; rfl⟩, rfl, rfl, no, rfl, b2, raises_own T.exC T.tyC, q2⟩
theorem passes0 : Passes (L2N.CX X.prog X.w) X (fun _ _ _ => False) := L2N.passes_call (W := fun _ _ _ _ => False) (fun _ _ ⟨_, _, _, _, _, _, _, _, _, _, _, _, _, _, _, _, w⟩ => w.elim) fun _ _ _ _ h => h
theorem SE.raise {cn : String} {x : Str} {fis : List (Str × Nat)} {n j : Nat} {fI : Addr} {fd : FuncData} {ps : List Str} (C : Cxt k X W) (T : XcC X.K cn) (iC : PySem.W.findIn X.K (.ref (cA X.K cn)) "__init__" = some (some (.ref fI))) (tI : PySem.W.typeIn X.K (.ref fI) = some (.type "function"))
    (F : FnOk X.prog X.w X.K X.mg X.base (L2N.CX X.prog X.w) j fI fd ps (spX X.K n fis)) (hj : j + 1 ≤ k) (hb : Binds X.K fd ps []) (hno : ∀ p ∈ fis, PySem.W.findIn X.K (.ref (cA X.K cn)) p.1 = some none) (hi : ∀ p ∈ fis, p.2 < n) (hn : (e :: es).length = n) (hm : X.mg x = some (.ref (cA X.K cn)))
    (ha : AE X W gs (e :: es)) (hg : Gl X x := by rfl) (hl : (e :: es).length ≤ 1000 := by decide)
    (hdb : (x == ("__debug__" : Str)) = false := by decide) (he : starEach (e :: es) X.env = (false, eval e X.env) :: starEach es X.env := by rfl) (hpl : (backTo pos (starEach es X.env)).any (·.1) = false := by rfl) :
    SE X W (sRaise cn fis gs) [] (.Raise (some (.Call (.Name x p) (e :: es) [] pos)) none pos') :=
  ps_imp (L2N.ps_raise C.cal C.tk (pmk_oexN T.oe iC tI F (C.room.mono hj) hb passes0 hg hm ha.pa hdb he hpl)) fun D σ H q => by
    obtain ⟨F0, L, A, en, S, q⟩ := q
    refine ⟨F0, L, A, en, S, ?_⟩
    unfold sRaise at q
    cases e1 : gs en with
    | no =>
      rw [e1] at q
      exact q
    | ex x =>
      rw [e1] at q
      exact fun cls d F' H' pu er => q cls d σ F' H' A (S.pur pu) er pu.step0 Wr.refl
    | ok ts =>
      rw [e1] at q
      dsimp only at q
      cases e2 : allF ts with
      | none =>
        rw [e2] at q
        exact q.elim
      | some ds =>
        rw [e2] at q
        intro vs F1 H1 B1 p1 r1 b1 c1
        obtain ⟨h1, rfl⟩ := allF_reps e2 r1
        have lv : vs.length = n := by rw [← Reps.length r1, ha.len en ts e1, hn]
        refine ⟨by rw [lv, ← hn]; exact hl, fun a na => ?_⟩
        refine ⟨a, cA X.K cn, vs, by rw [List.append_nil], lv, T.oe, hno, upd_same, fun d hd nd => ⟨rfl, d, xfs fis vs, upd_same, by rw [upd_ne nd, upd_same], ?_, ?_⟩⟩
        · rw [upd_ne nd] at hd
          exact hd
        · rw [upd_ne nd] at hd
          have eH : upd (del (upd (upd (upd H1 a (exo a (cA X.K cn) none)) d (exd d (xfs fis vs))) a (exo a (cA X.K cn) (some d))) a) d (.xd (xfs fis vs)) = upd H1 d (.xd (xfs fis vs)) := funext fun b => by
            by_cases eb : b = d
            · rw [eb, upd_same, upd_same]
            · rw [upd_ne eb, upd_ne eb]
              by_cases ea : b = a
              · rw [ea, del_same, na]
              · rw [del_ne ea, upd_ne ea, upd_ne eb, upd_ne ea]
          rw [eH]
          have S1 := S.pur p1
          have hF : F1 d = none := S1.sF.free hd
          have sf : Same F1 (upd F1 d (.xd (xfs fis vs))) := fun a u e => by rw [upd_ne (ne_of_none e hF)]; exact e
          have sh : Same H1 (upd H1 d (.xd (xfs fis vs))) := fun a u e => by rw [upd_ne (ne_of_none e hd)]; exact e
          have pu : Pur F1 H1 (upd F1 d (.xd (xfs fis vs))) (upd H1 d (.xd (xfs fis vs))) := ⟨sh, sf, fun a e n => by
            by_cases z : a = d
            · rw [z]; exact hd
            · rw [upd_ne z] at n
              exact absurd e n, fun a u e => by
            by_cases z : a = d
            · subst z
              rw [upd_same] at e ⊢
              exact e
            · rw [upd_ne z] at e ⊢
              exact S1.sF a u e⟩
          have pt := p1.trans pu
          have ld : ds.length = n := by rw [RepDs.length h1, lv]
          obtain ⟨m1, m2, m3⟩ := mkX_rep (c := cn) (RepDs.mono (Le.of sf) ds vs h1) fis fun p hp => by rw [ld]; exact hi p hp
          refine q _ _ σ _ _ A (S.pur pt) ⟨rfl, d, _, rfl, m3, ?_, m1⟩ pt.step0 Wr.refl
          rw [← m2, upd_same]
end
end DT
/-! Data trees, part 10: try; a caught exception; isinstance. -/
namespace DT
open PySem L2
variable {K K' : Gx}

/-! ### more pins, fewer pins -/
structure Gle (K K' : Gx) : Prop where
  k : K.K = K'.K
  p : ∀ q ∈ K.pn, q ∈ K'.pn
theorem Ob.gle (g : Gle K K') {F : Hp} {p : Addr} {k : Kd} {vs : List V} (h : Ob K F p k vs) : Ob K' F p k vs := by
  obtain ⟨k1, p1⟩ := K
  obtain ⟨k2, p2⟩ := K'
  obtain ⟨e, hp⟩ := g
  dsimp only at e
  subst e
  cases k with
  | exc c fs =>
    obtain ⟨l, oe, dd, h1, h2⟩ := h
    exact ⟨l, oe, dd, h1.imp_left (hp _), h2⟩
  | _ => exact h
theorem ObX.gle (g : Gle K K') {F : Hp} {p : Addr} {k : Kd} {vs : List V} (h : ObX K F p k vs) : ObX K' F p k vs := by
  obtain ⟨k1, p1⟩ := K
  obtain ⟨k2, p2⟩ := K'
  obtain ⟨e, hp⟩ := g
  dsimp only at e
  subst e
  cases k <;> exact h
mutual
theorem RepD.gle (g : Gle K K') {F : Hp} : ∀ (d : D) (v : V), RepD K F d v → RepD K' F d v
  | .a x, v, h => by unfold RepD at h ⊢; exact h
  | .n k ds, v, h => by
    unfold RepD at h ⊢
    obtain ⟨p, vs, a, b, c⟩ := h
    exact ⟨p, vs, a, b.gle g, RepDs.gle g ds vs c⟩
theorem RepDs.gle (g : Gle K K') {F : Hp} : ∀ (ds : List D) (vs : List V), RepDs K F ds vs → RepDs K' F ds vs
  | [], vs, h => by unfold RepDs at h ⊢; exact h
  | d :: ds, vs, h => by
    unfold RepDs at h ⊢
    obtain ⟨v, ws, a, b, c⟩ := h
    exact ⟨v, ws, a, RepD.gle g d v b, RepDs.gle g ds ws c⟩
end
mutual
theorem Rep.gle (g : Gle K K') {F L H : Hp} : ∀ (t : T) (v : V) (A : Fp), Rep K F L H t v A → Rep K' F L H t v A
  | .f d, v, A, h => by
    unfold Rep at h ⊢
    exact ⟨h.1, RepD.gle g d v h.2⟩
  | .n .ow k ts, v, A, h => by
    unfold Rep at h ⊢
    obtain ⟨p, vs, B, a, b, c, d, e⟩ := h
    exact ⟨p, vs, B, a, b.gle g, c, d, Reps.gle g ts vs B e⟩
  | .n .lk k ts, v, A, h => by
    unfold Rep at h ⊢
    obtain ⟨p, vs, a, b, c, d⟩ := h
    exact ⟨p, vs, a, b, c.gle g, Reps.gle g ts vs fe d⟩
theorem Reps.gle (g : Gle K K') {F L H : Hp} : ∀ (ts : List T) (vs : List V) (A : Fp), Reps K F L H ts vs A → Reps K' F L H ts vs A
  | [], vs, A, h => by unfold Reps at h ⊢; exact h
  | t :: ts, vs, A, h => by
    unfold Reps at h ⊢
    obtain ⟨v, ws, A1, A2, a, b, c, d, e⟩ := h
    exact ⟨v, ws, A1, A2, a, b, c, Rep.gle g t v A1 d, Reps.gle g ts ws A2 e⟩
end
theorem Slot.gle (g : Gle K K') {F L H : Hp} {o : Option V} {e : Option T} {A : Fp} (h : Slot K F L H o e A) : Slot K' F L H o e A := by
  cases e with
  | none => exact h
  | some t =>
    cases o with
    | none => exact h.elim
    | some v => exact Rep.gle g t v A h
theorem Slots.gle (g : Gle K K') {F L H : Hp} : ∀ {σ : List (Option V)} {en : En} {A : Fp}, Slots K F L H σ en A → Slots K' F L H σ en A
  | [], [], A, h => h
  | o :: σ, e :: en, A, h => by
    obtain ⟨A1, A2, a, b, c, d⟩ := h
    exact ⟨A1, A2, a, b, c.gle g, Slots.gle g d⟩
  | [], _ :: _, A, h => h.elim
  | _ :: _, [], A, h => h.elim
def isX : Kd → Bool
  | .exc _ _ => true
  | _ => false
mutual
/-- no exception stands in it -/
def nxD : D → Bool
  | .a _ => true
  | .n k ds => !isX k && nxDs ds
def nxDs : List D → Bool
  | [] => true
  | d :: ds => nxD d && nxDs ds
end
mutual
def nxT : T → Bool
  | .f d => nxD d
  | .n _ k ts => !isX k && nxTs ts
def nxTs : List T → Bool
  | [] => true
  | t :: ts => nxT t && nxTs ts
end
theorem Ob.re (g : K.K = K'.K) {F : Hp} {p : Addr} {k : Kd} {vs : List V} (n : (!isX k) = true) (h : Ob K F p k vs) : Ob K' F p k vs := by
  obtain ⟨k1, p1⟩ := K
  obtain ⟨k2, p2⟩ := K'
  dsimp only at g
  subst g
  cases k with
  | exc c fs => cases n
  | _ => exact h
theorem ObX.re (g : K.K = K'.K) {F : Hp} {p : Addr} {k : Kd} {vs : List V} (h : ObX K F p k vs) : ObX K' F p k vs := by
  obtain ⟨k1, p1⟩ := K
  obtain ⟨k2, p2⟩ := K'
  dsimp only at g
  subst g
  cases k <;> exact h
mutual
theorem RepD.re (g : K.K = K'.K) {F : Hp} : ∀ (d : D) (v : V), nxD d = true → RepD K F d v → RepD K' F d v
  | .a x, v, _, h => by unfold RepD at h ⊢; exact h
  | .n k ds, v, n, h => by
    unfold nxD at n
    unfold RepD at h ⊢
    obtain ⟨n1, n2⟩ := and2 n
    obtain ⟨p, vs, a, b, c⟩ := h
    exact ⟨p, vs, a, b.re g n1, RepDs.re g ds vs n2 c⟩
theorem RepDs.re (g : K.K = K'.K) {F : Hp} : ∀ (ds : List D) (vs : List V), nxDs ds = true → RepDs K F ds vs → RepDs K' F ds vs
  | [], vs, _, h => by unfold RepDs at h ⊢; exact h
  | d :: ds, vs, n, h => by
    unfold nxDs at n
    unfold RepDs at h ⊢
    obtain ⟨n1, n2⟩ := and2 n
    obtain ⟨v, ws, a, b, c⟩ := h
    exact ⟨v, ws, a, RepD.re g d v n1 b, RepDs.re g ds ws n2 c⟩
end
mutual
theorem Rep.re (g : K.K = K'.K) {F L H : Hp} : ∀ (t : T) (v : V) (A : Fp), nxT t = true → Rep K F L H t v A → Rep K' F L H t v A
  | .f d, v, A, n, h => by
    unfold nxT at n
    unfold Rep at h ⊢
    exact ⟨h.1, RepD.re g d v n h.2⟩
  | .n .ow k ts, v, A, n, h => by
    unfold nxT at n
    unfold Rep at h ⊢
    obtain ⟨n1, n2⟩ := and2 n
    obtain ⟨p, vs, B, a, b, c, d, e⟩ := h
    exact ⟨p, vs, B, a, b.re g, c, d, Reps.re g ts vs B n2 e⟩
  | .n .lk k ts, v, A, n, h => by
    unfold nxT at n
    unfold Rep at h ⊢
    obtain ⟨n1, n2⟩ := and2 n
    obtain ⟨p, vs, a, b, c, d⟩ := h
    exact ⟨p, vs, a, b, c.re g n1, Reps.re g ts vs fe n2 d⟩
theorem Reps.re (g : K.K = K'.K) {F L H : Hp} : ∀ (ts : List T) (vs : List V) (A : Fp), nxTs ts = true → Reps K F L H ts vs A → Reps K' F L H ts vs A
  | [], vs, A, _, h => by unfold Reps at h ⊢; exact h
  | t :: ts, vs, A, n, h => by
    unfold nxTs at n
    unfold Reps at h ⊢
    obtain ⟨n1, n2⟩ := and2 n
    obtain ⟨v, ws, A1, A2, a, b, c, d, e⟩ := h
    exact ⟨v, ws, A1, A2, a, b, c, Rep.re g t v A1 n1 d, Reps.re g ts ws A2 n2 e⟩
end
def clrO : Option T → Option T
  | some t => if nxT t = true then some t else none
  | none => none
def clr (en : En) : En := en.map clrO
theorem Slot.clr (g : K.K = K'.K) {F L H : Hp} {o : Option V} {e : Option T} {A : Fp} (h : Slot K F L H o e A) : ∃ B, Slot K' F L H o (clrO e) B ∧ ∀ p, B p → A p := by
  cases e with
  | none => exact ⟨A, h, fun _ z => z⟩
  | some t =>
    cases o with
    | none => exact h.elim
    | some v =>
      show ∃ B, Slot K' F L H (some v) (if nxT t = true then some t else none) B ∧ _
      by_cases n : nxT t = true
      · rw [if_pos n]
        exact ⟨A, Rep.re g t v A n h, fun _ z => z⟩
      · rw [if_neg n]
        exact ⟨fe, rfl, fun _ z => z.elim⟩
theorem Slots.clr (g : K.K = K'.K) {F L H : Hp} : ∀ {σ : List (Option V)} {en : En} {A : Fp}, Slots K F L H σ en A → ∃ B, Slots K' F L H σ (DT.clr en) B ∧ ∀ p, B p → A p
  | [], [], A, h => ⟨A, h, fun _ z => z⟩
  | o :: σ, e :: en, A, h => by
    obtain ⟨A1, A2, a, b, c, d⟩ := h
    subst a
    obtain ⟨B1, h1, i1⟩ := c.clr g
    obtain ⟨B2, h2, i2⟩ := Slots.clr g d
    exact ⟨fu B1 B2, ⟨B1, B2, rfl, fun p x y => b p (i1 p x) (i2 p y), h1, h2⟩, fun p z => z.imp (i1 p) (i2 p)⟩
  | [], _ :: _, A, h => h.elim
  | _ :: _, [], A, h => h.elim
theorem Slots.drop {F L H : Hp} {σ : L2.St} {en : En} {A : Fp} {i : Nat} (o' : Option V) (S : Slots K F L H σ en A) : ∃ A', Slots K F L H (σ.set i o') (en.set i none) A' ∧ ∀ p, A' p → A p := by
  cases e : en[i]? with
  | none =>
    have h1 : en.length ≤ i := List.getElem?_eq_none_iff.mp e
    have h2 := S.len
    rw [List.set_eq_of_length_le (by omega), List.set_eq_of_length_le h1]
    exact ⟨A, S, fun p z => z⟩
  | some o =>
    obtain ⟨o, Ai, Ar, h1, h2, rfl, h4, h5, h6⟩ := Slots.focus S e
    exact ⟨fu fe Ar, h6 (Le.refl F) (Le.refl L) (fun _ _ => rfl) o' none fe rfl e_dj, fun p z => z.elim (fun z => z.elim) .inr⟩
theorem Stk.gle (g : Gle K K') {F L H : Hp} {σ : L2.St} {en : En} {A : Fp} (S : Stk K F L H σ en A) : Stk K' F L H σ en A := ⟨S.sl.gle g, S.sF, S.sL, S.nF, S.nL⟩
theorem Stk.out (g : K.K = K'.K) {F L H : Hp} {σ : L2.St} {en : En} {A : Fp} (i : Nat) (o' : Option V) (S : Stk K F L H σ en A) : ∃ B, Stk K' F L H (σ.set i o') (clr (en.set i none)) B ∧ ∀ p, B p → A p := by
  obtain ⟨A1, h1, i1⟩ := S.sl.drop (i := i) o'
  obtain ⟨B, h2, i2⟩ := h1.clr g
  exact ⟨B, ⟨h2, S.sF, S.sL, fun p z => S.nF p (i1 p (i2 p z)), fun p z => S.nL p (i1 p (i2 p z))⟩, fun p z => i1 p (i2 p z)⟩
theorem Step.sup {F H F' H' : Hp} {A A1 A2 : Fp} (st : Step F H A F' H' A2) (i : ∀ p, A p → A1 p) : Step F H A1 F' H' A2 := ⟨fun a o h n => st.fr a o h fun z => n (i a z), fun a z => (st.ow a z).imp_left (i a), st.fx, fun a h n => (st.fg a h n).imp_left (i a), st.sF⟩

/-! ### try -/
def tryR (i : Nat) : So → So
  | .nx e => .nx (clr (e.set i none))
  | .bk e => .bk (clr (e.set i none))
  | .rt t e => if nxT t = true then .rt t (clr (e.set i none)) else .no
  | _ => .no
def sTryAs (i : Nat) (ca : String → Option Bool) (sb su : En → So) : En → So := fun en => match sb en with
  | .ex x e => (match ca x.c with
    | some true => tryR i (su (e.set i (some (.f (.n (.exc x.c x.fs) x.ds)))))
    | some false => .ex x e
    | none => .no)
  | r => r
def tryO : So → So
  | .ex _ _ => .no
  | r => r
def sTryO (ca : String → Option Bool) (sb su : En → So) : En → So := fun en => match sb en with
  | .ex x e => (match ca x.c with
    | some true => tryO (su e)
    | some false => .ex x e
    | none => .no)
  | r => r
/-- in an except suite -/
structure Cxh (k : Nat) (X : Cx) (W : Wt) : Prop where
  hot : L2H.HotC X
  room : L2H.RoomH k X.A
  nd : X.N.Nodup
  un : X.A.units + 65 < cLine
  pn : ∀ q ∈ W.p, q ∈ X.pn
def w0 (p : List (Addr × Obj)) : Wt := ⟨fun _ _ _ _ => False, p⟩
/-- what an except clause catches -/
def caB (K : PySem.W.Frag) (c : String) (l : List (String × Bool)) : Bool := l.all fun p => decide (PySem.W.exmOne K (.ref (cA K p.1)) (.ref (cA K c)) = some p.2)
theorem lookup_in {α β : Type} [BEq α] [LawfulBEq α] {a : α} {b : β} : ∀ {l : List (α × β)}, l.lookup a = some b → (a, b) ∈ l
  | [], h => by cases h
  | (c, d) :: r, h => by
    have h2 : (match a == c with | true => some d | false => r.lookup a) = some b := h
    cases q : (a == c) with
    | true =>
      rw [q] at h2
      have e : d = b := Option.some.inj h2
      rw [eq_of_beq q, e]
      exact List.mem_cons_self
    | false =>
      rw [q] at h2
      exact List.mem_cons_of_mem _ (lookup_in h2)
theorem caB_ok {K : PySem.W.Frag} {c : String} {l : List (String × Bool)} (h : caB K c l = true) : ∀ x b, l.lookup x = some b → PySem.W.exmOne K (.ref (cA K x)) (.ref (cA K c)) = some b := fun x b e =>
  of_decide_eq_true (List.all_eq_true.mp h (x, b) (lookup_in e))
section
variable {X : Cx} {W : Wt} {e a b c : Expr} {es : List Expr} {pos pos' np p : Pos} {g : En → Rv} {gs : En → Rvs} {k : Nat}
theorem hot_of {a : Addr} {oe : Obj} {cls : Value} {d : Option Addr} {pn : List (Addr × Obj)} (hz : L2N.Zn cls d oe) (hf : ∃ vs, oe.data = .fields vs) : L2H.HotC (X.suite a ((a, oe) :: pn)) := by
  obtain ⟨vs, hv⟩ := hf
  exact ⟨(a, oe), ⟨rfl, vs, hv, hz.2.2 vs hv⟩, List.mem_cons_self⟩
theorem SE.try_as {i : Nat} {x n : Str} {cn : String} {l : List (String × Bool)} {sb su : En → So} {wb wsu : List Nat} {body suite : List Stmt} {b0 : Stmt} (C : Cxt k X W) (hp : W.p = []) (hs : X.stack = X.env :: X.outer) (hf : X.env.frame = some X.env.locals)
    (hca : caB X.K cn l = true) (hm : X.mg x = some (.ref (cA X.K cn)))
    (hb : ∀ (W' : Wt) (pn : List (Addr × Obj)) (xe : Value → Shared → Prop), Cxt k (X.tr pn xe) W' → W'.p = [] → PassesOwn (model X.prog X.w) X.A X.env xe → SEs (X.tr pn xe) W' sb wb body)
    (hsu : ∀ (a : Addr) (oe : Obj) (cls : Value) (d : Option Addr) (pn : List (Addr × Obj)), Cxh k (X.suite a ((a, oe) :: pn)) (w0 [(a, oe)]) → SEs (X.suite a ((a, oe) :: pn)) (w0 [(a, oe)]) su wsu (b0 :: suite))
    (hi : X.N[i]? = some n := by rfl) (hln : X.env.kindOf n = some .local := by rfl) (hg : Gl X x := by rfl) (hdb : (x == ("__debug__" : Str)) = false := by decide) :
    SE X W (sTryAs i (fun c => l.lookup c) sb su) (wb ++ i :: wsu) (.Try body [.ExceptHandler (some (.Name x np)) (some n) (b0 :: suite) pos'] [] [] pos) := by
  obtain ⟨w, pw⟩ := W
  dsimp only at hp
  subst hp
  refine ps_imp (L2N.ps_try_as (tb := fun W' => tS ⟨X.K, []⟩ sb W' wb) (ts := fun a cls d D σ H => ∀ oe, L2N.Zn cls d oe → (∃ vs, oe.data = .fields vs) → tS ⟨X.K, [(a, oe)]⟩ su (fun _ _ _ _ => False) wsu D σ H) (Wout := w) hs hf C.nd hi hln ⟨hg, hdb, .inl hm⟩ C.tk
    (fun W' pn xe tk po => hb ⟨W', []⟩ pn xe ⟨C.cal, C.room, C.nd, tk, fun _ z => by cases z⟩ rfl po)
    (fun a oe cls d pn hz hfl => pss_imp (hsu a oe cls d pn ⟨hot_of hz hfl, ⟨C.room.dp, C.room.un⟩, C.nd, by have := C.hu; exact this, fun q z => by
      rw [List.mem_singleton.mp z]
      exact List.mem_cons_self⟩) fun D σ H q => q oe hz hfl)) fun D σ H q => ?_
  obtain ⟨F, L, A, en, S, q⟩ := q
  refine ⟨F, L, A, en, S, ?_⟩
  unfold sTryAs at q
  have m1 : ∀ j ∈ wb, j ∈ wb ++ i :: wsu := fun j z => List.mem_append_left _ z
  have m2 : ∀ j ∈ wsu, j ∈ wb ++ i :: wsu := fun j z => List.mem_append_right _ (List.mem_cons_of_mem _ z)
  have m3 : i ∈ wb ++ i :: wsu := List.mem_append_right _ List.mem_cons_self
  have wr1 : ∀ {σ σ' : L2.St} {o : Option V}, Wr (wb ++ i :: wsu) σ σ' → Wr (wb ++ i :: wsu) σ (σ'.set i o) := fun w => w.trans (Wr.set.mono fun j z => by rw [List.mem_singleton.mp z]; exact m3)
  cases e1 : sb en with
  | nx e =>
    rw [e1] at q
    exact fun σ' F' H' A' S' st wr => q σ' F' H' A' S' st (wr.mono m1)
  | rt t e =>
    rw [e1] at q
    exact fun v σ' F' H' A' B S' r n d b1 b2 st wr => q v σ' F' H' A' B S' r n d b1 b2 st (wr.mono m1)
  | bk e =>
    rw [e1] at q
    exact fun σ' F' H' A' S' st wr => q σ' F' H' A' S' st (wr.mono m1)
  | no =>
    rw [e1] at q
    exact q.elim
  | ex x e =>
    rw [e1] at q
    dsimp only at q
    intro cls d σ' F' H' A' S' er st wr
    obtain ⟨ec, dd, vs, rfl, hl, hdd, hds⟩ := er
    subst ec
    cases e2 : l.lookup x.c with
    | none =>
      rw [e2] at q
      exact q.elim
    | some b =>
      rw [e2] at q
      refine ⟨b, caB_ok hca x.c b e2, fun eb a na oe hz hfl => ?_, fun eb => ?_⟩
      · subst eb
        dsimp only at q
        have g : Gle ⟨X.K, []⟩ ⟨X.K, [(a, oe)]⟩ := ⟨rfl, fun _ z => by cases z⟩
        have r : Rep ⟨X.K, [(a, oe)]⟩ F' L H' (.f (.n (.exc x.c x.fs) x.ds)) (.ref a) fe := by
          unfold Rep RepD
          exact ⟨rfl, a, vs, rfl, ⟨hl, oe, dd, .inl List.mem_cons_self, hz.1, hz.2.1, hfl, hdd⟩, RepDs.gle g _ _ hds⟩
        obtain ⟨A2, S2, i2⟩ := Stk.put (i := i) (S'.gle g) r dj_e (fun _ z => z.elim) (fun _ z => z.elim)
        have i2' : ∀ p, A2 p → A' p := fun p z => (i2 p z).elim id fun z => z.elim
        refine ⟨F', L, A2, _, S2, ?_⟩
        cases e3 : su (e.set i (some (.f (.n (.exc x.c x.fs) x.ds)))) with
        | nx e4 =>
          rw [e3] at q
          intro σ3 F3 H3 A3 S3 st3 wr3
          obtain ⟨B, S4, i4⟩ := Stk.out (K := ⟨X.K, [(a, oe)]⟩) (K' := ⟨X.K, []⟩) rfl i none S3
          exact q _ F3 H3 B S4 ((st.trans (st3.sup i2')).sub i4) (wr1 ((wr1 (wr.mono m1)).trans (wr3.mono m2)))
        | bk e4 =>
          rw [e3] at q
          intro σ3 F3 H3 A3 S3 st3 wr3
          obtain ⟨B, S4, i4⟩ := Stk.out (K := ⟨X.K, [(a, oe)]⟩) (K' := ⟨X.K, []⟩) rfl i none S3
          exact q _ F3 H3 B S4 ((st.trans (st3.sup i2')).sub i4) (wr1 ((wr1 (wr.mono m1)).trans (wr3.mono m2)))
        | rt t e4 =>
          rw [e3] at q
          unfold tryR at q
          dsimp only at q
          by_cases hx : nxT t = true
          · rw [if_pos hx] at q
            intro v σ3 F3 H3 A3 B3 S3 r3 n3 d3 b3 c3 st3 wr3
            obtain ⟨B, S4, i4⟩ := Stk.out (K := ⟨X.K, [(a, oe)]⟩) (K' := ⟨X.K, []⟩) rfl i none S3
            exact q v _ F3 H3 B B3 S4 (Rep.re (K := ⟨X.K, [(a, oe)]⟩) (K' := ⟨X.K, []⟩) rfl t v B3 hx r3) n3 (fun p z y => d3 p (i4 p z) y) b3 c3 ((st.trans (st3.sup i2')).sub fun p z => z.imp_left (i4 p)) (wr1 ((wr1 (wr.mono m1)).trans (wr3.mono m2)))
          · rw [if_neg hx] at q
            exact q.elim
        | ex y e4 =>
          rw [e3] at q
          exact q.elim
        | no =>
          rw [e3] at q
          exact q.elim
      · subst eb
        dsimp only at q
        exact q _ _ σ' F' H' A' S' ⟨rfl, dd, vs, rfl, hl, hdd, hds⟩ st (wr.mono m1)
theorem SE.try_only {x : Str} {cn : String} {l : List (String × Bool)} {sb su : En → So} {wb wsu : List Nat} {body suite : List Stmt} {b0 : Stmt} (C : Cxt k X W) (hp : W.p = []) (hs : X.stack = X.env :: X.outer) (hf : X.env.frame = some X.env.locals)
    (hca : caB X.K cn l = true) (hm : X.mg x = some (.ref (cA X.K cn)))
    (hb : ∀ (W' : Wt) (pn : List (Addr × Obj)) (xe : Value → Shared → Prop), Cxt k (X.tr pn xe) W' → W'.p = [] → PassesOwn (model X.prog X.w) X.A X.env xe → SEs (X.tr pn xe) W' sb wb body)
    (hsu : ∀ (a : Addr) (oe : Obj) (cls : Value) (d : Option Addr) (pn : List (Addr × Obj)), Cxh k (X.suite a ((a, oe) :: pn)) (w0 []) → SEs (X.suite a ((a, oe) :: pn)) (w0 []) su wsu (b0 :: suite))
    (hg : Gl X x := by rfl) (hdb : (x == ("__debug__" : Str)) = false := by decide) :
    SE X W (sTryO (fun c => l.lookup c) sb su) (wb ++ wsu) (.Try body [.ExceptHandler (some (.Name x np)) none (b0 :: suite) pos'] [] [] pos) := by
  obtain ⟨w, pw⟩ := W
  dsimp only at hp
  subst hp
  refine ps_imp (L2N.ps_try_many (tb := fun W' => tS ⟨X.K, []⟩ sb W' wb) (Wout := w) hs hf C.tk
    (fun W' pn xe tk po => hb ⟨W', []⟩ pn xe ⟨C.cal, C.room, C.nd, tk, fun _ z => by cases z⟩ rfl po)
    (.cons (ts := fun a cls d D σ H => tS ⟨X.K, []⟩ su (fun _ _ _ _ => False) wsu D σ H) ⟨hg, hdb, .inl hm⟩ (fun a oe cls d pn hz hfl => hsu a oe cls d pn ⟨hot_of hz hfl, ⟨C.room.dp, C.room.un⟩, C.nd, by have := C.hu; exact this, fun q z => by cases z⟩) .nil)) fun D σ H q => ?_
  obtain ⟨F, L, A, en, S, q⟩ := q
  refine ⟨F, L, A, en, S, ?_⟩
  unfold sTryO at q
  have m1 : ∀ j ∈ wb, j ∈ wb ++ wsu := fun j z => List.mem_append_left _ z
  have m2 : ∀ j ∈ wsu, j ∈ wb ++ wsu := fun j z => List.mem_append_right _ z
  cases e1 : sb en with
  | nx e =>
    rw [e1] at q
    exact fun σ' F' H' A' S' st wr => q σ' F' H' A' S' st (wr.mono m1)
  | rt t e =>
    rw [e1] at q
    exact fun v σ' F' H' A' B S' r n d b1 b2 st wr => q v σ' F' H' A' B S' r n d b1 b2 st (wr.mono m1)
  | bk e =>
    rw [e1] at q
    exact fun σ' F' H' A' S' st wr => q σ' F' H' A' S' st (wr.mono m1)
  | no =>
    rw [e1] at q
    exact q.elim
  | ex x e =>
    rw [e1] at q
    dsimp only at q
    intro cls d σ' F' H' A' S' er st wr
    obtain ⟨ec, dd, vs, rfl, hl, hdd, hds⟩ := er
    subst ec
    cases e2 : l.lookup x.c with
    | none =>
      rw [e2] at q
      exact q.elim
    | some b =>
      rw [e2] at q
      refine ⟨b, caB_ok hca x.c b e2, fun eb a na => ?_, fun eb => ?_⟩
      · subst eb
        dsimp only at q
        refine ⟨F', L, A', e, S', ?_⟩
        cases e3 : su e with
        | nx e4 =>
          rw [e3] at q
          exact fun σ3 F3 H3 A3 S3 st3 wr3 => q σ3 F3 H3 A3 S3 (st.trans st3) ((wr.mono m1).trans (wr3.mono m2))
        | bk e4 =>
          rw [e3] at q
          exact fun σ3 F3 H3 A3 S3 st3 wr3 => q σ3 F3 H3 A3 S3 (st.trans st3) ((wr.mono m1).trans (wr3.mono m2))
        | rt t e4 =>
          rw [e3] at q
          exact fun v σ3 F3 H3 A3 B3 S3 r3 n3 d3 b3 c3 st3 wr3 => q v σ3 F3 H3 A3 B3 S3 r3 n3 d3 b3 c3 (st.trans st3) ((wr.mono m1).trans (wr3.mono m2))
        | ex y e4 =>
          rw [e3] at q
          exact q.elim
        | no =>
          rw [e3] at q
          exact q.elim
      · subst eb
        dsimp only at q
        exact q _ _ σ' F' H' A' S' ⟨rfl, dd, vs, rfl, hl, hdd, hds⟩ st (wr.mono m1)

/-! ### the fields of a caught exception -/
/-- at a: an exception of the class at C, with the fields fs -/
def ExAt (X : Cx) (H : Hp) (a C : Addr) (fs : List (Str × V)) : Prop := ∃ (oe : Obj) (dd : Addr), ((a, oe) ∈ X.pn ∨ H a = some (.ext fun h => h.get? a = some oe)) ∧ oe.cls = .ref C ∧ oe.dict = some dd ∧ (∃ ws, oe.data = .fields ws) ∧ H dd = some (.xd fs)
theorem ExAt.inst {pins : List (Addr × Obj)} {σ : L2.St} {H : Hp} {s : Shared} {a C : Addr} {fs : List (Str × V)} (x : ExAt X H a C fs) (I : Inv X pins σ H s) :
    ∃ (ox od : Obj) (mA : Str → Option Value), PySem.W.InstAt s.heap a ox C (some od) ∧ (∀ name, PySem.W.lookIn name od = some (mA name)) ∧ ∀ f, RelO (fs.lookup f) (mA f) := by
  obtain ⟨oe, dd, h1, hc, hd, ⟨vs, hv⟩, hx⟩ := x
  have ha : s.heap.get? a = some oe := by
    rcases h1 with h1 | h1
    · exact (I.pin (a, oe) (List.mem_append_left _ h1)).1
    · have z : ObjOk X.prog X.w H s.heap a (.ext fun h => h.get? a = some oe) := I.hok a _ h1
      exact z.1
  have hx : ObjOk X.prog X.w H s.heap dd (.xd fs) := I.hok dd _ hx
  obtain ⟨mA, hns, hr⟩ := hx
  obtain ⟨od, ho, hl⟩ := lookIn_ns hns
  exact ⟨oe, od, mA, ⟨ha, hc, by unfold PySem.W.notCls; rw [hv] <;> rfl, by rw [hd]; exact ho⟩, hl, hr⟩
def rXf (X : Cx) (n : Str) : R1 := fun x H Q => ∃ (a C : Addr) (fs : List (Str × V)) (v : V), x = .ref a ∧ XfC X.K C ∧ PySem.W.findIn X.K (.ref C) n = some none ∧ ExAt X H a C fs ∧ fs.lookup n = some v ∧ Q v H
theorem pe_xf2 {te : TE} {n : Str} (he : PE X e te) (hb : attributeBase e n X.env (eval e X.env) = eval e X.env := by rfl) : PE X (.Attribute e n pos) (fun σ H Q => te σ H fun x H1 => rXf X n x H1 Q) := by
  refine ⟨fun pins s σ H Q I h => ?_⟩
  refine attr_of hb (thn (he.run pins s σ H _ I h) fun u s1 hh => ?_)
  obtain ⟨x, H1, I1, rx, a, C, fs, v, ex, T, hno, xa, l, q⟩ := hh
  subst ex
  obtain rfl : u = Value.ref a := rx
  obtain ⟨ox, od, mA, J, hl, hr⟩ := xa.inst I1
  obtain ⟨u, hu, ru⟩ := RelO.some_of (v := v) (o := mA n) (by rw [← l]; exact hr n)
  exact PySem.HandSPX.exc_get I1.kIn J T.ga T.gg T.exC (PySem.W.findObj_own T.hdC hno rfl (by rw [hl, hu])) (handed_of ru) ⟨v, H1, I1.tok _, ru, q⟩
def fget {α : Type} : List Str → List α → Str → Option α
  | f :: fs, x :: xs, g => if g = f then some x else fget fs xs g
  | _, _, _ => none
theorem Reps.fget {F L H : Hp} : ∀ {fs : List Str} {ts : List T} {vs : List V} {A : Fp} {f : Str} {t : T}, Reps K F L H ts vs A → fs.length = vs.length → DT.fget fs ts f = some t → ∃ v B, (fs.zip vs).lookup f = some v ∧ Rep K F L H t v B ∧ ∀ a, B a → A a
  | [], ts, vs, A, f, t, r, hl, e => by cases e
  | g :: fs, [], vs, A, f, t, r, hl, e => by cases e
  | g :: fs, u :: ts, vs, A, f, t, r, hl, e => by
    unfold Reps at r
    obtain ⟨v, ws, A1, A2, rfl, rfl, c, d, r2⟩ := r
    have hz : ((g :: fs).zip (v :: ws)).lookup f = if f = g then some v else (fs.zip ws).lookup f := lookup_put g f v (fs.zip ws)
    unfold DT.fget at e
    by_cases h : f = g
    · rw [if_pos h] at e
      cases e
      exact ⟨v, A1, by rw [hz, if_pos h], d, fun a z => .inl z⟩
    · rw [if_neg h] at e
      obtain ⟨v', B, h1, h2, h3⟩ := Reps.fget r2 (by simpa using hl) e
      exact ⟨v', B, by rw [hz, if_neg h]; exact h1, h2, fun a z => .inr (h3 a z)⟩
theorem Op1.part {r : R1} {φ : T → Option T} (h : ∀ (F L H : Hp) (x : V) (t1 t : T) (A1 : Fp), Same F H → Same L H → Rep K F L H t1 x A1 → φ t1 = some t → ∃ v B, Rep K F L H t v B ∧ (∀ a, B a → A1 a) ∧ ∀ Q : VK, Q v H → r x H Q) : Op1 K r φ := by
  intro F L H x t1 t A1 Q sF sL r1 e q
  obtain ⟨v, B, h1, h2, h3⟩ := h F L H x t1 t A1 sF sL r1 e
  exact h3 Q (q v H B (Same.refl H) h1 fun a z => .inl (h2 a z))
def xfT (cs : List String) (f : Str) (t : T) : Option T := match kids t with
  | some (.exc c fs, ts) => if cs.contains c = true then fget fs ts f else none
  | _ => none
/-- facts: each class of cs is one of errors, and has no attribute f of its own -/
def xfOk (K : PySem.W.Frag) (cs : List String) (f : Str) : Bool := cs.all fun c => xfB K (cA K c) && decide (PySem.W.findIn K (.ref (cA K c)) f = some none)
theorem Ob.exAt {c : String} {fs : List Str} {H : Hp} {p : Addr} {vs : List V} (hp : ∀ q ∈ W.p, q ∈ X.pn) (o : Ob (gx X W) H p (.exc c fs) vs) : fs.length = vs.length ∧ ExAt X H p (cA X.K c) (fs.zip vs) := by
  obtain ⟨hl, oe, dd, h1, h2⟩ := o
  exact ⟨hl, oe, dd, h1.imp_left (hp _), h2⟩
theorem o1_xf {cs : List String} {f : Str} (hp : ∀ q ∈ W.p, q ∈ X.pn) (hx : xfOk X.K cs f = true) : Op1 (gx X W) (rXf X f) (xfT cs f) := Op1.part fun F L H x t1 t A1 sF sL r1 e => by
  unfold xfT at e
  split at e
  · rename_i c fs ts ek
    split at e
    · rename_i hc
      obtain ⟨p, vs, B, rfl, o, i, r⟩ := Rep.kids r1 ek sF sL
      obtain ⟨hl, xa⟩ := Ob.exAt hp o
      obtain ⟨v, B', h1, h2, h3⟩ := Reps.fget r hl e
      obtain ⟨h4, h5⟩ := and2 (List.all_eq_true.mp hx c (by simpa using hc))
      exact ⟨v, B', h2, fun a z => i a (h3 a z), fun Q q => ⟨p, cA X.K c, _, v, rfl, xfB_ok h4, of_decide_eq_true h5, xa, h1, q⟩⟩
    · cases e
  · cases e
theorem VE.xf {cs : List String} {f : Str} (hp : ∀ q ∈ W.p, q ∈ X.pn) (hx : xfOk X.K cs f = true) (h : VE X W g e) (hb : attributeBase e f X.env (eval e X.env) = eval e X.env := by rfl) : VE X W (v1 (xfT cs f) g) (.Attribute e f pos) :=
  pe_imp (pe_xf2 h hb) fun σ H Q q => v1_ok (o1_xf hp hx) q

/-! ### isinstance -/
inductive Cd where
  | ty (n : String) | own (c : String)
  deriving DecidableEq
def cdV (K : PySem.W.Frag) : Cd → Value
  | .ty n => .type n
  | .own c => .ref (cA K c)
def cdW (K : PySem.W.Frag) : Cd → V
  | .ty n => .ty n
  | .own c => .ref (cA K c)
theorem cd_cls (K : PySem.W.Frag) (c : Cd) : ClsV (cdW K c) (cdV K c) := by
  cases c with
  | ty n => exact .ty n
  | own c => exact .own _
def tyF : Fl → String
  | .non => "NoneType" | .bl _ => "bool" | .int _ => "int" | .str _ => "str"
def tyT (t : T) : Option Cd := match t with
  | .f (.a x) => some (.ty (tyF x))
  | _ => (match kids t with
    | some (.lst, _) => some (.ty "list")
    | some (.tup, _) => some (.ty "tuple")
    | some (.dic _, _) => some (.ty "dict")
    | some (.exc c _, _) => some (.own c)
    | _ => none)
def TyA (X : Cx) (H : Hp) (x : V) (t : Value) : Prop := TyX X.K H x t ∨ ∃ (a C : Addr) (fs : List (Str × V)), x = .ref a ∧ t = .ref C ∧ ExcC X.K C ∧ ExAt X H a C fs
theorem Ob.up {H H' : Hp} (s : Same H H') {p : Addr} {k : Kd} {vs : List V} (h : Ob K H p k vs) : Ob K H' p k vs := h.mono (Le.of s)
/-- facts: an answer of isinstance for each type that comes -/
def isOk (K : PySem.W.Frag) (cds : List Cd) (tb : List (Cd × Bool)) : Bool := tb.all fun p => decide (PySem.W.kitAny K (cdV K p.1) (cds.map (cdV K)) = some p.2) && (match p.1 with
  | .own c => xcB K c
  | .ty _ => true)
def isB (tb : List (Cd × Bool)) (t : T) : Option T := match tyT t with
  | some c => (tb.lookup c).map T.b
  | none => none
theorem tyT_ok {F L H H' : Hp} {t : T} {x : V} {A : Fp} {c : Cd} (hp : ∀ q ∈ W.p, q ∈ X.pn) (sF : Same F H) (sL : Same L H) (r : Rep (gx X W) F L H t x A) (e : tyT t = some c) (hx : ∀ c', c = .own c' → xcB X.K c' = true) (sm : Same H H') : TyA X H' x (cdV X.K c) := by
  unfold tyT at e
  split at e
  · rename_i z
    cases e
    obtain ⟨rfl, _⟩ := r.flat
    left
    cases z with
    | non => exact .base .non
    | bl b => exact .base (.bl b)
    | int i => exact .base (.int i)
    | str s => exact .base (.str s)
  · split at e
    · rename_i ts ek
      cases e
      obtain ⟨p, vs, B, rfl, o, _⟩ := Rep.kids r ek sF sL
      exact .inl (.base (.lst (Ob.up sm o)))
    · rename_i ts ek
      cases e
      obtain ⟨p, vs, B, rfl, o, _⟩ := Rep.kids r ek sF sL
      rcases Ob.up sm o with (o | ⟨ob, o⟩) | ⟨ob, its, n, h1, h2, _⟩
      · exact .inl (.base (.tup o))
      · exact .inl (.fTuple o)
      · exact .inl (.kTuple h1 h2)
    · rename_i ks ts ek
      cases e
      obtain ⟨p, vs, B, rfl, o, _⟩ := Rep.kids r ek sF sL
      obtain ⟨_, o⟩ := Ob.up sm o
      rcases o with o | ⟨ob, o⟩
      · exact .inl (.base (.dK o))
      · exact .inl (.fDict o)
    · rename_i c fs ts ek
      cases e
      obtain ⟨p, vs, B, rfl, o, _⟩ := Rep.kids r ek sF sL
      obtain ⟨_, xa⟩ := Ob.exAt hp (Ob.up sm o)
      exact .inr ⟨p, _, _, rfl, rfl, (xcB_ok (hx c rfl)).ex, xa⟩
    · cases e
theorem kit_A {pins : List (Addr × Obj)} {σ : L2.St} {H : Hp} {s : Shared} {x : V} {u t : Value} (I : Inv X pins σ H s) (rx : RelV x u) (ty : TyA X H x t) : ∃ P : Heap → Prop, PySem.W.KitX X.K u t P ∧ P s.heap ∧ u ≠ .builtin "__main__.__loader__#opaque" := by
  rcases ty with ty | ⟨a, C, fs, rfl, rfl, T, xa⟩
  · exact kit_of I rx ty
  · obtain rfl : u = Value.ref a := rx
    obtain ⟨ox, od, mA, J, _⟩ := xa.inst I
    obtain ⟨cd, hc, _⟩ := PySem.W.any_some T.hd
    exact ⟨_, PySem.W.kitx_exc (by rw [hc] <;> rfl) T.hg T.hk T.hs T.ha T.hn T.ht T.hm, J, fun z => nomatch z⟩
/-- isinstance(x, c), isinstance(x, (c1, ..)) -/
def rIs1 (X : Cx) (c : Cd) : List V → Hp → VK → Prop := fun xs H Q => ∃ (x : V) (t : Value) (b : Bool), xs = [x, cdW X.K c] ∧ TyA X H x t ∧ PySem.W.kitOne X.K t (cdV X.K c) = some b ∧ Q (.bl b) H
def rIsN (X : Cx) (cs : List Cd) : List V → Hp → VK → Prop := fun xs H Q => ∃ (x : V) (tp : Addr) (t : Value) (b : Bool), xs = [x, .ref tp] ∧ H tp = some (.tup (cs.map (cdW X.K))) ∧ TyA X H x t ∧ PySem.W.kitAny X.K t (cs.map (cdV X.K)) = some b ∧ Q (.bl b) H
theorem call_is1 {c : Cd} : CallR X (.builtin "isinstance") (rIs1 X c) := by
  intro pins s σ H xs us Q I r h
  obtain ⟨x, t, b, rfl, ty, e, q⟩ := h
  obtain ⟨u1, u2, rfl, r1, r2⟩ := vals2 r
  have e2 := (cd_cls X.K c).eq r2
  subst e2
  obtain ⟨P, Z, p, hx⟩ := kit_A I r1 ty
  exact PySem.W.kia_one Z I.kIn p e hx fun tk => ⟨.bl b, H, I.tok tk, rfl, q⟩
theorem cds_paired (K : PySem.W.Frag) : ∀ cs : List Cd, Paired ClsV (cs.map (cdW K)) (cs.map (cdV K))
  | [] => .nil
  | c :: cs => .cons (cd_cls K c) (cds_paired K cs)
theorem call_isN {cs : List Cd} : CallR X (.builtin "isinstance") (rIsN X cs) := by
  intro pins s σ H xs us Q I r h
  obtain ⟨x, tp, t, b, rfl, hT, ty, e, q⟩ := h
  obtain ⟨u1, u2, rfl, r1, r2⟩ := vals2 r
  cases (show u2 = Value.ref tp from r2)
  obtain ⟨P, Z, p, hx⟩ := kit_A I r1 ty
  obtain ⟨_, its, rv, o, h1, h2, n, h3⟩ := (show ObjOk X.prog X.w H s.heap tp (.tup (cs.map (cdW X.K))) from I.hok tp _ hT)
  have e3 := ClsV.all (cds_paired X.K cs) rv
  subst e3
  obtain ⟨oc, od, dt, sl⟩ := o
  simp only at h2 h3
  subst h2 h3
  exact PySem.W.kia_tup Z I.kIn p h1 e hx fun tk => ⟨.bl b, H, I.tok tk, rfl, q⟩
/-- class names as arguments -/
theorem pc_nil : PA X [] (fun _ H Q => Q [] H) := pa_nil
theorem pc_cons {v : V} {vs : List V} (h : PE X c (tC v)) (hs : PA X es (fun _ H Q => Q vs H)) (hst : starEach (c :: es) X.env = (false, eval c X.env) :: starEach es X.env := by rfl) : PA X (c :: es) (fun _ H Q => Q (v :: vs) H) := pa_cons h hs hst
theorem is_ans {cds : List Cd} {tb : List (Cd × Bool)} (hi : isOk X.K cds tb = true) {t u : T} (e : isB tb t = some u) : ∃ c b, tyT t = some c ∧ u = .b b ∧ PySem.W.kitAny X.K (cdV X.K c) (cds.map (cdV X.K)) = some b ∧ ∀ c', c = .own c' → xcB X.K c' = true := by
  unfold isB at e
  split at e
  · rename_i c ec
    cases e2 : tb.lookup c with
    | none =>
      rw [e2] at e
      cases e
    | some b =>
      rw [e2] at e
      cases e
      obtain ⟨h1, h2⟩ := and2 (List.all_eq_true.mp hi (c, b) (lookup_in e2))
      refine ⟨c, b, ec, rfl, of_decide_eq_true h1, fun c' z => ?_⟩
      subst z
      exact h2
  · cases e
theorem kitAny_one {K : PySem.W.Frag} {t c : Value} {b : Bool} (h : PySem.W.kitAny K t [c] = some b) : PySem.W.kitOne K t c = some b := by
  unfold PySem.W.kitAny at h
  cases e : PySem.W.kitOne K t c with
  | none =>
    rw [e] at h
    cases h
  | some b' =>
    rw [e] at h
    cases b' with
    | true => exact h
    | false => exact h
theorem VE.is1 {cd : Cd} {tb : List (Cd × Bool)} (hp : ∀ q ∈ W.p, q ∈ X.pn) (hi : isOk X.K [cd] tb = true) (hm : X.mg "isinstance" = none) (h : VE X W g a) (hc : PE X c (tC (cdW X.K cd))) (hg : Gl X "isinstance" := by rfl)
    (he : starEach [a, c] X.env = (false, eval a X.env) :: starEach [c] X.env := by rfl) (he2 : starEach [c] X.env = (false, eval c X.env) :: starEach [] X.env := by rfl) (hpl : (backTo pos (starEach [c] X.env)).any (·.1) = false := by rfl) : VE X W (v1 (isB tb) g) (.Call (.Name "isinstance" p) [a, c] [] pos) :=
  pe_imp (pe_callB (call_is1 (c := cd)) hg hm PyProof.Rows.Boot.«isinstance» (pa_cons h (pc_cons hc pc_nil he2) he) (by decide) (by decide) he hpl) fun σ H Q q => v1_ok (r := fun x H Q => rIs1 X cd [x, cdW X.K cd] H Q) (fun F L H x t1 t A1 Q sF sL r1 e q => by
    obtain ⟨c, b, ec, rfl, h1, h2⟩ := is_ans hi e
    exact ⟨x, _, b, rfl, tyT_ok hp sF sL r1 ec h2 (Same.refl H), kitAny_one h1, q _ H fe (Same.refl H) Rep.of_flat fun _ z => z.elim⟩) q
theorem VE.isN {cds : List Cd} {tb : List (Cd × Bool)} {x1} {pos2 : Pos} (hp : ∀ q ∈ W.p, q ∈ X.pn) (hi : isOk X.K cds tb = true) (hm : X.mg "isinstance" = none) (h : VE X W g a) (hc : PA X es (fun _ H Q => Q (cds.map (cdW X.K)) H)) (hl : cds.length ≤ LINE := by decide) (hg : Gl X "isinstance" := by rfl)
    (he : starEach [a, .Tuple es x1 pos2] X.env = (false, eval a X.env) :: starEach [.Tuple es x1 pos2] X.env := by rfl) (he2 : starEach [.Tuple es x1 pos2] X.env = (false, eval (.Tuple es x1 pos2) X.env) :: starEach [] X.env := by rfl) (hpl : (backTo pos (starEach [.Tuple es x1 pos2] X.env)).any (·.1) = false := by rfl) : VE X W (v1 (isB tb) g) (.Call (.Name "isinstance" p) [a, .Tuple es x1 pos2] [] pos) :=
  pe_imp (pe_callB (call_isN (cs := cds)) hg hm PyProof.Rows.Boot.«isinstance» (pa_cons h (pa_cons (pe_tup hc) pa_nil he2) he) (by decide) (by decide) he hpl) fun σ H Q q =>
    v1_ok (r := fun x H Q => (cds.map (cdW X.K)).length ≤ sizeLine ∧ ∀ p, H p = none → rIsN X cds [x, .ref p] (upd H p (.tup (cds.map (cdW X.K)))) Q) (fun F L H x t1 t A1 Q sF sL r1 e q => by
      obtain ⟨c, b, ec, rfl, h1, h2⟩ := is_ans hi e
      refine ⟨by rw [List.length_map]; exact line_le hl, fun p hn => ?_⟩
      have sm : Same H (upd H p (.tup (cds.map (cdW X.K)))) := fun a u e => by rw [upd_ne (ne_of_none e hn)]; exact e
      exact ⟨x, p, _, b, rfl, upd_same, tyT_ok hp sF sL r1 ec h2 sm, h1, q _ _ fe sm Rep.of_flat fun _ z => z.elim⟩) q
end
end DT
/-! Data trees, part 11: defs where they stand; built-in functions. -/
namespace DT
open PySem L2
variable {K : Gx}

/-! ### defs -/
structure Fok (P : Program) (w : World) (K : PySem.W.Frag) (mg : Str → Option Value) (base : Heap) (x : Str) (l n : Nat) (r : List T → Cr) : Prop where
  ex : ∃ (f : Addr) (fd : FuncData) (ps : List Str), FnOk P w K mg base (L2N.CX P w) l f fd ps (spS ⟨K, []⟩ n r) ∧ mg x = some (.ref f) ∧ PySem.W.keepIn K (.ref f) = true ∧ Binds K fd ps []
structure Xok (P : Program) (w : World) (K : PySem.W.Frag) (mg : Str → Option Value) (base : Heap) (c : String) (n : Nat) (fis : List (Str × Nat)) : Prop where
  xc : XcC K c
  gm : mg (Str.ofString c) = some (.ref (cA K c))
  no : ∀ p ∈ fis, PySem.W.findIn K (.ref (cA K c)) p.1 = some none
  hi : ∀ p ∈ fis, p.2 < n
  ex : ∃ (fI : Addr) (fd : FuncData) (ps : List Str), PySem.W.findIn K (.ref (cA K c)) "__init__" = some (some (.ref fI)) ∧ PySem.W.typeIn K (.ref fI) = some (.type "function") ∧ FnOk P w K mg base (L2N.CX P w) 1 fI fd ps (spX K n fis) ∧ Binds K fd ps []
/-- the context of a body that may raise -/
structure Bx (k : Nat) (X : Cx) (W : Wt) : Prop where
  c : Cxt k X W
  p0 : W.p = []
  hs : X.stack = X.env :: X.outer
  hf : X.env.frame = some X.env.locals
  po : PassesOwn (model X.prog X.w) X.A X.env X.xe
theorem gx0 {X : Cx} {W : Wt} (h : W.p = []) : gx X W = ⟨X.K, []⟩ := by
  unfold gx
  rw [h]
section
variable {X : Cx} {W : Wt} {e a b c : Expr} {es : List Expr} {pos pos' np p : Pos} {g g1 g2 : En → Rv} {gs : En → Rvs} {k l n : Nat} {r : List T → Cr} {x : Str}
theorem VE.callF (F : Fok X.prog X.w X.K X.mg X.base x l n r) (C : Cxt k X W) (p0 : W.p = []) (ha : AE X W gs (e :: es)) (hj : l ≤ k := by decide) (hn : (e :: es).length = n := by rfl) (hg : Gl X x := by rfl)
    (hdb : (x == ("__debug__" : Str)) = false := by decide) (he : starEach (e :: es) X.env = (false, eval e X.env) :: starEach es X.env := by rfl) (hpl : (backTo pos (starEach es X.env)).any (·.1) = false := by rfl) : VE X W (vCall r gs) (.Call (.Name x p) (e :: es) [] pos) := by
  obtain ⟨f, fd, ps, F1, hm, hk, hb⟩ := F.ex
  subst hn
  rw [← gx0 p0] at F1
  exact VE.call C F1 hj hm hk hb ha hg hdb he hpl
theorem SE.raiseX {cn : String} {fis : List (Str × Nat)} (F : Xok X.prog X.w X.K X.mg X.base cn n fis) (B : Bx k X W) (hx : x = Str.ofString cn) (ha : AE X W gs (e :: es)) (hj : 2 ≤ k := by decide) (hn : (e :: es).length = n := by rfl) (hg : Gl X x := by rfl) (hl : (e :: es).length ≤ 1000 := by decide)
    (hdb : (x == ("__debug__" : Str)) = false := by decide) (he : starEach (e :: es) X.env = (false, eval e X.env) :: starEach es X.env := by rfl) (hpl : (backTo pos (starEach es X.env)).any (·.1) = false := by rfl) :
    SE X W (sRaise cn fis gs) [] (.Raise (some (.Call (.Name x p) (e :: es) [] pos)) none pos') := by
  obtain ⟨fI, fd, ps, iC, tI, F1, hb⟩ := F.ex
  subst hx
  exact SE.raise B.c F.xc iC tI F1 hj hb F.no F.hi hn F.gm ha hg hl hdb he hpl
theorem SE.tryAs {i : Nat} {n : Str} {cn : String} {l : List (String × Bool)} {sb su : En → So} {wb wsu : List Nat} {body suite : List Stmt} {b0 : Stmt} (B : Bx k X W) (hca : caB X.K cn l = true) (hm : X.mg x = some (.ref (cA X.K cn)))
    (hb : ∀ (W' : Wt) (pn : List (Addr × Obj)) (xe : Value → Shared → Prop), Bx k (X.tr pn xe) W' → SEs (X.tr pn xe) W' sb wb body)
    (hsu : ∀ (a : Addr) (oe : Obj) (pn : List (Addr × Obj)), Cxh k (X.suite a ((a, oe) :: pn)) (w0 [(a, oe)]) → SEs (X.suite a ((a, oe) :: pn)) (w0 [(a, oe)]) su wsu (b0 :: suite))
    (hi : X.N[i]? = some n := by rfl) (hln : X.env.kindOf n = some .local := by rfl) (hg : Gl X x := by rfl) (hdb : (x == ("__debug__" : Str)) = false := by decide) :
    SE X W (sTryAs i (fun c => l.lookup c) sb su) (wb ++ i :: wsu) (.Try body [.ExceptHandler (some (.Name x np)) (some n) (b0 :: suite) pos'] [] [] pos) :=
  SE.try_as B.c B.p0 B.hs B.hf hca hm (fun W' pn xe C p0 po => hb W' pn xe ⟨C, p0, B.hs, B.hf, po⟩) (fun a oe _ _ pn h => hsu a oe pn h) hi hln hg hdb
theorem SE.tryO {cn : String} {l : List (String × Bool)} {sb su : En → So} {wb wsu : List Nat} {body suite : List Stmt} {b0 : Stmt} (B : Bx k X W) (hca : caB X.K cn l = true) (hm : X.mg x = some (.ref (cA X.K cn)))
    (hb : ∀ (W' : Wt) (pn : List (Addr × Obj)) (xe : Value → Shared → Prop), Bx k (X.tr pn xe) W' → SEs (X.tr pn xe) W' sb wb body)
    (hsu : ∀ (a : Addr) (oe : Obj) (pn : List (Addr × Obj)), Cxh k (X.suite a ((a, oe) :: pn)) (w0 []) → SEs (X.suite a ((a, oe) :: pn)) (w0 []) su wsu (b0 :: suite))
    (hg : Gl X x := by rfl) (hdb : (x == ("__debug__" : Str)) = false := by decide) :
    SE X W (sTryO (fun c => l.lookup c) sb su) (wb ++ wsu) (.Try body [.ExceptHandler (some (.Name x np)) none (b0 :: suite) pos'] [] [] pos) :=
  SE.try_only B.c B.p0 B.hs B.hf hca hm (fun W' pn xe C p0 po => hb W' pn xe ⟨C, p0, B.hs, B.hf, po⟩) (fun a oe _ _ pn h => hsu a oe pn h) hg hdb
end
/-- a def keeps its promise -/
theorem fn_S {P : Program} {w : World} {K : PySem.W.Frag} {mg : Str → Option Value} {base : Heap} {N ps : List Str} {x qual : Str} {params : Arguments} {body : List Stmt} {scope : Scope} {f : Addr} {fd : FuncData} {k n NN : Nat} {s : En → So} {ws : List Nat}
    (F : FunD K x qual params body scope [] [] f fd) (S : FnScope N ps scope) (hn : ps.length = n) (hN : N.length = NN) (hNN : n ≤ NN)
    (der : ∀ (cdv : Value) (A : Around) (outer : List Env) (s0 : Shared) (H : Hp) (E : XK) (W : Wt), Bx k (cxOf (L2N.CX P w) P w K mg base N qual scope f cdv A outer s0 H E) W → SEs (cxOf (L2N.CX P w) P w K mg base N qual scope f cdv A outer s0 H E) W s ws body) :
    FnOk P w K mg base (L2N.CX P w) (k + 1) f fd ps (spS ⟨K, []⟩ n (fun ts => fin n ws (s (ini NN ts)))) := by
  subst hN
  refine F.ok S (fun vs H Q E h => by rw [hn]; exact h.1) fun cdv A outer s0 H vs Q E hr h => ?_
  have tk : L2N.Takes (cxOf (L2N.CX P w) P w K mg base N qual scope f cdv A outer s0 H E) (fun cls d _ H => E cls d H) := L2N.takes_of rfl rfl rfl rfl
  refine ⟨_, der cdv A outer s0 H E ⟨fun cls d _ H => E cls d H, []⟩ ⟨⟨rfl, hr, S.nd, tk, fun _ z => by cases z⟩, rfl, rfl, rfl, passes_of rfl⟩, ?_⟩
  exact spS_start hNN (fun _ _ _ _ h => h) rfl h

/-! ### names of the module -/
section
variable {X : Cx} {W : Wt} {e a b c : Expr} {es : List Expr} {pos pos' np p : Pos} {g g1 g2 : En → Rv} {gs : En → Rvs} {k l n : Nat} {x : Str}
theorem VE.gint {i : Int} (hm : ∃ t, X.mg x = some (.int i t)) (hg : Gl X x := by rfl) (hd : (x == ("__debug__" : Str)) = false := by decide) : VE X W (vC (.a (.int i))) (.Name x pos) := by
  obtain ⟨t, hm⟩ := hm
  exact VE.flat (pe_glob hg hm ⟨t, rfl⟩ hd)
theorem VE.gstr {i : Str} (hm : ∃ t, X.mg x = some (.str i t)) (hg : Gl X x := by rfl) (hd : (x == ("__debug__" : Str)) = false := by decide) : VE X W (vC (.a (.str i))) (.Name x pos) := by
  obtain ⟨t, hm⟩ := hm
  exact VE.flat (pe_glob hg hm ⟨t, rfl⟩ hd)
theorem pc_own {cn : String} (hm : X.mg x = some (.ref (cA X.K cn))) (hg : Gl X x := by rfl) (hd : (x == ("__debug__" : Str)) = false := by decide) : PE X (.Name x pos) (tC (cdW X.K (.own cn))) := pe_glob hg hm rfl hd
theorem pc_ty {n : String} (hm : X.mg x = none) (hv : bootBuiltins x = some (.type n)) (hg : Gl X x := by rfl) (hn : x ≠ "__name__" := by decide) (hd : (x == ("__debug__" : Str)) = false := by decide) : PE X (.Name x pos) (tC (cdW X.K (.ty n))) := pe_bltn hg hm hv rfl hn hd

/-! ### built-in functions -/
theorem VE.call1 {id : String} {r : List V → Hp → VK → Prop} {φ : T → Option T} (hc : CallR X (.builtin id) r) (hv : bootBuiltins x = some (.builtin id)) (hφ : Op1 (gx X W) (fun v H Q => r [v] H Q) φ) (hm : X.mg x = none) (h : VE X W g a) (hg : Gl X x := by rfl)
    (hn : x ≠ "__name__" := by decide) (hdb : (x == ("__debug__" : Str)) = false := by decide) (he : starEach [a] X.env = (false, eval a X.env) :: starEach [] X.env := by rfl) (hpl : (backTo pos (starEach [] X.env)).any (·.1) = false := by rfl) : VE X W (v1 φ g) (.Call (.Name x p) [a] [] pos) :=
  pe_imp (pe_callB hc hg hm hv (pa_cons h pa_nil he) hn hdb he hpl) fun σ H Q q => v1_ok hφ q
theorem VE.callT1 {id : String} {r : List V → Hp → VK → Prop} {φ : T → Option T} (hc : CallR X (.type id) r) (hv : bootBuiltins x = some (.type id)) (hφ : Op1 (gx X W) (fun v H Q => r [v] H Q) φ) (hm : X.mg x = none) (h : VE X W g a) (hg : Gl X x := by rfl)
    (hn : x ≠ "__name__" := by decide) (hdb : (x == ("__debug__" : Str)) = false := by decide) (he : starEach [a] X.env = (false, eval a X.env) :: starEach [] X.env := by rfl) (hpl : (backTo pos (starEach [] X.env)).any (·.1) = false := by rfl) : VE X W (v1 φ g) (.Call (.Name x p) [a] [] pos) :=
  pe_imp (pe_callTy hc hg hm hv (pa_cons h pa_nil he) hn hdb he hpl) fun σ H Q q => v1_ok hφ q
theorem VE.call2 {id : String} {r : List V → Hp → VK → Prop} {φ : T → T → Option T} (hc : CallR X (.builtin id) r) (hv : bootBuiltins x = some (.builtin id)) (hφ : Op2 (gx X W) (fun v u H Q => r [v, u] H Q) φ) (hm : X.mg x = none) (h : VE X W g1 a) (h2 : VE X W g2 b) (hg : Gl X x := by rfl)
    (hn : x ≠ "__name__" := by decide) (hdb : (x == ("__debug__" : Str)) = false := by decide) (he : starEach [a, b] X.env = (false, eval a X.env) :: starEach [b] X.env := by rfl) (he2 : starEach [b] X.env = (false, eval b X.env) :: starEach [] X.env := by rfl) (hpl : (backTo pos (starEach [b] X.env)).any (·.1) = false := by rfl) : VE X W (v2 φ g1 g2) (.Call (.Name x p) [a, b] [] pos) :=
  pe_imp (pe_callB hc hg hm hv (pa_cons h (pa_cons h2 pa_nil he2) he) hn hdb he hpl) fun σ H Q q => v2_ok hφ q
def lenT (t : T) : Option T := match t with
  | .f (.a (.str x)) => if x.length ≤ LINE then some (.i x.length) else none
  | _ => (match kids t with
    | some (.lst, ts) => some (.i ts.length)
    | some (.scr, ts) => some (.i ts.length)
    | some (.tup, ts) => some (.i ts.length)
    | _ => none)
theorem o1_len {X : Cx} : Op1 (gx X W) (fun v H Q => (fun xs H Q => ∃ x n, xs = [x] ∧ LenV X.K x H n ∧ Q (.int n) H : List V → Hp → VK → Prop) [v] H Q) lenT := Op1.flat fun F L H x t1 t A1 sF sL r1 e => by
  unfold lenT at e
  split at e
  · rename_i z
    split at e
    · rename_i hl
      cases e
      obtain ⟨rfl, _⟩ := r1.flat
      exact ⟨_, rfl, fun Q q => ⟨_, _, rfl, ⟨line_le hl, rfl⟩, q⟩⟩
    · cases e
  · split at e
    · rename_i ts ek
      cases e
      obtain ⟨p, vs, B, rfl, o, i, r⟩ := Rep.kids r1 ek sF sL
      exact ⟨_, rfl, fun Q q => ⟨_, _, rfl, .inl ⟨vs, SqL.of o, Reps.length r⟩, q⟩⟩
    · rename_i ts ek
      cases e
      obtain ⟨p, vs, B, rfl, o, i, r⟩ := Rep.kids r1 ek sF sL
      exact ⟨_, rfl, fun Q q => ⟨_, _, rfl, .inl ⟨vs, o, Reps.length r⟩, q⟩⟩
    · rename_i ts ek
      cases e
      obtain ⟨p, vs, B, rfl, o, i, r⟩ := Rep.kids r1 ek sF sL
      exact ⟨_, rfl, fun Q q => ⟨_, _, rfl, .inr ⟨vs, o, Reps.length r⟩, q⟩⟩
    · cases e
theorem VE.len (hm : X.mg "len" = none) (h : VE X W g a) (hg : Gl X "len" := by rfl) (he : starEach [a] X.env = (false, eval a X.env) :: starEach [] X.env := by rfl) (hpl : (backTo pos (starEach [] X.env)).any (·.1) = false := by rfl) : VE X W (v1 lenT g) (.Call (.Name "len" p) [a] [] pos) :=
  VE.call1 call_len boot_len o1_len hm h hg (by decide) (by decide) he hpl
def maxT : T → T → Option T := i2 (fun _ _ => true) fun i j => .int (if j > i then j else i)
def minT : T → T → Option T := i2 (fun _ _ => true) fun i j => .int (if j < i then j else i)
theorem o2_call {gv : Int → Int → Int} : Op2 K (fun v u H Q => (fun xs H Q => ∃ i j, xs = [.int i, .int j] ∧ Q (.int (gv i j)) H : List V → Hp → VK → Prop) [v, u] H Q) (i2 (fun _ _ => true) fun i j => .int (gv i j)) := Op2.flat fun F L H x y t1 t2 t A1 A2 _ _ r1 r2 e => by
  obtain ⟨i, j, rfl, rfl, c, rfl⟩ := i2_some e
  obtain ⟨rfl, _⟩ := r1.flat
  obtain ⟨rfl, _⟩ := r2.flat
  exact ⟨_, rfl, fun Q q => ⟨i, j, rfl, q⟩⟩
theorem VE.max2 (hc : X.calm = true) (hm : X.mg "max" = none) (h : VE X W g1 a) (h2 : VE X W g2 b) (hg : Gl X "max" := by rfl) (he : starEach [a, b] X.env = (false, eval a X.env) :: starEach [b] X.env := by rfl) (he2 : starEach [b] X.env = (false, eval b X.env) :: starEach [] X.env := by rfl) (hpl : (backTo pos (starEach [b] X.env)).any (·.1) = false := by rfl) : VE X W (v2 maxT g1 g2) (.Call (.Name "max" p) [a, b] [] pos) :=
  VE.call2 (call_max2 hc) (by decide +kernel) o2_call hm h h2 hg (by decide) (by decide) he he2 hpl
theorem VE.min2 (hc : X.calm = true) (hm : X.mg "min" = none) (h : VE X W g1 a) (h2 : VE X W g2 b) (hg : Gl X "min" := by rfl) (he : starEach [a, b] X.env = (false, eval a X.env) :: starEach [b] X.env := by rfl) (he2 : starEach [b] X.env = (false, eval b X.env) :: starEach [] X.env := by rfl) (hpl : (backTo pos (starEach [b] X.env)).any (·.1) = false := by rfl) : VE X W (v2 minT g1 g2) (.Call (.Name "min" p) [a, b] [] pos) :=
  VE.call2 (call_min2 hc) (by decide +kernel) o2_call hm h h2 hg (by decide) (by decide) he he2 hpl
theorem VE.idx (hu : X.A.units + 65 < cLine) (h : VE X W g1 a) (h2 : VE X W g2 b) (hs : PlainIx b := by intro _ _; rfl) : VE X W (v2 idxT g1 g2) (.Subscript a b pos) :=
  pe_imp (pe_ix (ix_any (by omega)) h h2 hs) fun σ H Q q => v2_ok o2_idx q
end

/-! ### the facts of errors -/
def xiB (K : PySem.W.Frag) (c : String) (fs : List Str) : Bool := xcB K c && (decide (PySem.W.findIn K (.ref (cA K c)) "__init__" = some (some (.ref (He.ma K (cA K c) "__init__")))) && (decide (PySem.W.typeIn K (.ref (He.ma K (cA K c) "__init__")) = some (.type "function")) && fs.all fun f => decide (PySem.W.findIn K (.ref (cA K c)) f = some none)))
theorem Xok.mk' {P : Program} {w : World} {K : PySem.W.Frag} {mg : Str → Option Value} {base : Heap} {c : String} {n : Nat} {f1 : Str × Nat} {fis : List (Str × Nat)} {N ps : List Str} {x qual : Str} {params : Arguments} {body : List Stmt} {scope : Scope} {fd : FuncData}
    (hb : xiB K c ((f1 :: fis).map (·.1)) = true) (hm : mg (Str.ofString c) = some (.ref (cA K c))) (F : FunD K x qual params body scope [] [] (He.ma K (cA K c) "__init__") fd) (S : FnScope N ps scope) (hn : ps.length = n + 1) (hi : ∀ p ∈ f1 :: fis, p.2 < n) (hl : fis.length ≤ 800)
    (hB : ∀ (cdv : Value) (A : Around) (outer : List Env) (s : Shared) (H : Hp) (E : XK), InitB (cxOf (L2N.CX P w) P w K mg base N qual scope (He.ma K (cA K c) "__init__") cdv A outer s H E) (f1 :: fis) body) (hbd : Binds K fd ps []) : Xok P w K mg base c n (f1 :: fis) := by
  obtain ⟨h1, h⟩ := and2 hb
  obtain ⟨h2, h⟩ := and2 h
  obtain ⟨h3, h4⟩ := and2 h
  exact ⟨xcB_ok h1, hm, fun p hp => of_decide_eq_true (List.all_eq_true.mp h4 p.1 (List.mem_map.mpr ⟨p, hp, rfl⟩)), hi, _, fd, ps, of_decide_eq_true h2, of_decide_eq_true h3, init_ok F S hn hi hl hB, hbd⟩
end DT
/-! Data trees, part 12: reckoning with the readings. -/
namespace DT
open PySem L2

/-! ### a law's end -/
abbrev I (n : Int) : T := .f (.a (.int n))
def scr (ns : List Int) : T := .f (.n .scr (ns.map fun i => .a (.int i)))
theorem ints_rep {K : Gx} {F : Hp} : ∀ ns : List Int, RepDs K F (ns.map fun i => .a (.int i)) (ns.map V.int)
  | [] => by
    show RepDs K F [] []
    unfold RepDs
    rfl
  | n :: ns => by
    show RepDs K F (.a (.int n) :: ns.map fun i => .a (.int i)) (V.int n :: ns.map V.int)
    unfold RepDs
    exact ⟨_, _, rfl, by unfold RepD; rfl, ints_rep ns⟩
theorem sp_law {K : PySem.W.Frag} {r : List T → Cr} {H : Hp} {a : Addr} {ns : List Int} (hS : SqL K H a (ns.map V.int)) (h : (r [scr ns]).v = .ok (.b true)) : spS ⟨K, []⟩ 1 r [.ref a] H (fun v _ => v = .bl true) fun _ _ _ => False := by
  refine ⟨rfl, H, H, fe, [scr ns], ⟨⟨fe, fe, fu_e.symm, e_dj, ?_, rfl⟩, Same.refl H, Same.refl H, fun _ z => z.elim, fun _ z => z.elim⟩, ?_⟩
  · show Rep ⟨K, []⟩ H H H (.f (.n .scr _)) (.ref a) fe
    unfold Rep RepD
    exact ⟨rfl, a, ns.map V.int, rfl, hS, ints_rep ns⟩
  · cases e : r [scr ns] with
    | no =>
      rw [e] at h
      cases h
    | ex x ps =>
      rw [e] at h
      cases h
    | ok t ps =>
      rw [e] at h
      have h2 : t = .b true := Rv.ok.inj h
      subst h2
      intro v F' H' A' B S' rp _ _ _ _ _
      exact rp.flat.1
theorem cx_out {P : Program} {w : World} (H : Hp) (s : Shared) (e : Value) (s' : Shared) (c : L2N.CX P w [] H s (fun _ _ _ => False) e s') : False := by
  obtain ⟨_, _, _, _, _, _, _, _, _, _, _, _, h⟩ := c
  exact h

theorem FnOk.top {P : Program} {w : World} {K : PySem.W.Frag} {mg : Str → Option Value} {base : Heap} {k : Nat} {f : Addr} {fd : FuncData} {ps : List Str} {sp : Sp} (F : FnOk P w K mg base (L2N.CX P w) k f fd ps sp) :
    FnOk P w K mg base CX0 k f fd ps (fun vs H Q _ => sp vs H Q fun _ _ _ => False) :=
  ⟨fun vs H Q _ h => F.len vs H Q _ h, fun A outer s H args us vs Q E hr e0 hb r h => codeAny_mono (F.run A outer s H args us vs Q _ hr e0 hb r h) fun r s' hq => by
    cases r with
    | error e =>
      obtain ⟨_, _, _, _, _, _, _, _, _, _, _, _, z⟩ := hq
      exact z.elim
    | ok fl => cases fl <;> exact hq⟩

/-! ### the readings on given slots -/
section
variable {g g1 g2 : En → Rv} {p p1 p2 : En → Rb} {s s1 s2 : En → So} {f : En → Rs} {gs : En → Rvs} {en : En} {φ1 : T → Option T} {φ2 : T → T → Option T}
def oRv : Option T → Rv
  | some t => .ok t
  | none => .no
@[simp] theorem oRv_some {t : T} : oRv (some t) = .ok t := rfl
@[simp] theorem oRv_none : oRv none = .no := rfl
@[simp] theorem vC_at {d : D} : vC d en = .ok (.f d) := rfl
def lkO : Option (Option T) → Rv
  | some (some t) => .ok (lock t)
  | _ => .no
theorem vVar_eq {i : Nat} : vVar i en = lkO en[i]? := by
  unfold vVar lkO
  split <;> simp_all
@[simp] theorem vVar_0 {o : Option T} {r : En} : vVar 0 (o :: r) = lkO (some o) := vVar_eq
@[simp] theorem vVar_s {o : Option T} {i : Nat} {r : En} : vVar (i + 1) (o :: r) = vVar i r := by rw [vVar_eq, vVar_eq]; rfl
@[simp] theorem lkO_f {d : D} : lkO (some (some (.f d))) = .ok (.f d) := rfl
@[simp] theorem lkO_n {m : Md} {k : Kd} {ts : List T} : lkO (some (some (.n m k ts))) = .ok (.n .lk k (locks ts)) := rfl
@[simp] theorem lkO_none : lkO (some none) = .no := rfl
def r1 (φ : T → Option T) : Rv → Rv
  | .ok t => oRv (φ t)
  | r => r
def r2 (φ : T → T → Option T) : Rv → Rv → Rv
  | .ok t, .ok u => oRv (φ t u)
  | .ok _, r => r
  | r, _ => r
@[simp] theorem v1_at : v1 φ1 g en = r1 φ1 (g en) := by
  unfold v1 r1 oRv
  cases g en with
  | ok t => cases φ1 t <;> rfl
  | _ => rfl
@[simp] theorem v2_at : v2 φ2 g1 g2 en = r2 φ2 (g1 en) (g2 en) := by
  unfold v2 r2 oRv
  cases g1 en with
  | ok t =>
    cases g2 en with
    | ok u => cases e : φ2 t u <;> simp [e]
    | _ => rfl
  | _ => rfl
@[simp] theorem r1_ok {t : T} : r1 φ1 (.ok t) = oRv (φ1 t) := rfl
@[simp] theorem r2_ok {t u : T} : r2 φ2 (.ok t) (.ok u) = oRv (φ2 t u) := rfl
@[simp] theorem r2_ex {t : T} {x : Ex} : r2 φ2 (.ok t) (.ex x) = .ex x := rfl
@[simp] theorem r2_exl {x : Ex} {r : Rv} : r2 φ2 (.ex x) r = .ex x := rfl
@[simp] theorem r1_ex {x : Ex} : r1 φ1 (.ex x) = .ex x := rfl
@[simp] theorem toB_ex' {x : Ex} : toB (.ex x) = .ex x := rfl
@[simp] theorem vB_at : vB g en = toB (g en) := rfl
@[simp] theorem toB_b {b : Bool} : toB (.ok (.b b)) = .ok b := rfl
@[simp] theorem toB_b' {b : Bool} : toB (.ok (.f (.a (.bl b)))) = .ok b := rfl
@[simp] theorem bV_at : bV p en = ofB (p en) := rfl
@[simp] theorem ofB_ok {b : Bool} : ofB (.ok b) = .ok (.f (.a (.bl b))) := rfl
def nB : Rb → Rb
  | .ok b => .ok (!b)
  | r => r
@[simp] theorem bNot_at : bNot p en = nB (p en) := by unfold bNot nB; cases p en <;> rfl
@[simp] theorem nB_ok {b : Bool} : nB (.ok b) = .ok (!b) := rfl
def aB : Rb → Rb → Rb
  | .ok true, r => r
  | .ok false, _ => .ok false
  | r, _ => r
def oB : Rb → Rb → Rb
  | .ok false, r => r
  | .ok true, _ => .ok true
  | r, _ => r
@[simp] theorem bAnd_at : bAnd p1 p2 en = aB (p1 en) (p2 en) := by
  unfold bAnd aB
  cases p1 en with
  | ok b => cases b <;> rfl
  | _ => rfl
@[simp] theorem bOr_at : bOr p1 p2 en = oB (p1 en) (p2 en) := by
  unfold bOr oB
  cases p1 en with
  | ok b => cases b <;> rfl
  | _ => rfl
@[simp] theorem aB_ok {a b : Bool} : aB (.ok a) (.ok b) = .ok (a && b) := by cases a <;> rfl
@[simp] theorem oB_ok {a b : Bool} : oB (.ok a) (.ok b) = .ok (a || b) := by cases a <;> rfl
@[simp] theorem aB_t {r : Rb} : aB (.ok true) r = r := rfl
@[simp] theorem aB_f {r : Rb} : aB (.ok false) r = .ok false := rfl
@[simp] theorem oB_t {r : Rb} : oB (.ok true) r = .ok true := rfl
@[simp] theorem oB_f {r : Rb} : oB (.ok false) r = r := rfl
def cV : Rb → Rv → Rv → Rv
  | .ok b, x, y => if b = true then x else y
  | .ex x, _, _ => .ex x
  | .no, _, _ => .no
@[simp] theorem cV_ok {b : Bool} {x y : Rv} : cV (.ok b) x y = if b = true then x else y := rfl
@[simp] theorem vAnd_at : vAnd p g en = cV (p en) (g en) (.ok (.b false)) := by
  unfold vAnd cV
  cases p en with
  | ok b => cases b <;> rfl
  | _ => rfl
@[simp] theorem vOr_at : vOr p g en = cV (p en) (.ok (.b true)) (g en) := by
  unfold vOr cV
  cases p en with
  | ok b => cases b <;> rfl
  | _ => rfl
@[simp] theorem vIf_at : vIf p g1 g2 en = cV (p en) (g1 en) (g2 en) := by
  unfold vIf cV
  cases p en with
  | ok b => cases b <;> rfl
  | _ => rfl
def lR : Rv → En → Rs
  | .ok t, en => .ok t en
  | .ex x, en => .ex x en
  | .no, _ => .no
@[simp] theorem liftV_at : liftV g en = lR (g en) en := by unfold liftV lR; cases g en <;> rfl
@[simp] theorem lR_ok {t : T} : lR (.ok t) en = .ok t en := rfl
@[simp] theorem lR_ex {x : Ex} : lR (.ex x) en = .ex x en := rfl
def aS (i : Nat) : Rs → So
  | .ok t e => if noLk t = true then .nx (e.set i (some t)) else .no
  | .ex x e => .ex x e
  | .no => .no
@[simp] theorem sAsg_at {i : Nat} : sAsg i f en = aS i (f en) := by unfold sAsg aS; cases f en <;> rfl
@[simp] theorem aS_ok {i : Nat} {t : T} {e : En} : aS i (.ok t e) = if noLk t = true then .nx (e.set i (some t)) else .no := rfl
@[simp] theorem aS_ex {i : Nat} {x : Ex} {e : En} : aS i (.ex x e) = .ex x e := rfl
@[simp] theorem noLk_f {d : D} : noLk (.f d) = true := rfl
def reS : Rs → So
  | .ok t e => if noLk t = true then .rt t e else .no
  | .ex x e => .ex x e
  | .no => .no
@[simp] theorem sRet_at : sRet f en = reS (f en) := by unfold sRet reS; cases f en <;> rfl
@[simp] theorem reS_ok {t : T} {e : En} : reS (.ok t e) = if noLk t = true then .rt t e else .no := rfl
@[simp] theorem reS_ex {x : Ex} {e : En} : reS (.ex x e) = .ex x e := rfl
def drS : Rs → So
  | .ok _ e => .nx e
  | .ex x e => .ex x e
  | .no => .no
@[simp] theorem sDrop_at : sDrop f en = drS (f en) := by unfold sDrop drS; cases f en <;> rfl
@[simp] theorem drS_ok {t : T} {e : En} : drS (.ok t e) = .nx e := rfl
@[simp] theorem drS_ex {x : Ex} {e : En} : drS (.ex x e) = .ex x e := rfl
def sqS (r : So) (k : En → So) : So := match r with
  | .nx e => k e
  | r => r
@[simp] theorem sSeq_at : sSeq s1 s2 en = sqS (s1 en) s2 := by unfold sSeq sqS; cases s1 en <;> rfl
@[simp] theorem sqS_nx {e : En} : sqS (.nx e) s = s e := rfl
@[simp] theorem sqS_rt {t : T} {e : En} : sqS (.rt t e) s = .rt t e := rfl
@[simp] theorem sqS_ex {x : Ex} {e : En} : sqS (.ex x e) s = .ex x e := rfl
@[simp] theorem sqS_bk {e : En} : sqS (.bk e) s = .bk e := rfl
@[simp] theorem sqS_ite {c : Prop} [Decidable c] {x y : So} : sqS (if c then x else y) s = if c then sqS x s else sqS y s := by split <;> rfl
def ifS : Rb → So → So → En → So
  | .ok b, x, y, _ => if b = true then x else y
  | .ex x, _, _, e => .ex x e
  | .no, _, _, _ => .no
@[simp] theorem sIf_at : sIf p s1 s2 en = ifS (p en) (s1 en) (s2 en) en := by
  unfold sIf ifS
  cases p en with
  | ok b => cases b <;> rfl
  | _ => rfl
@[simp] theorem ifS_ok {b : Bool} {x y : So} : ifS (.ok b) x y en = if b = true then x else y := rfl
@[simp] theorem ifS_ex {x : Ex} {a b : So} : ifS (.ex x) a b en = .ex x en := rfl
@[simp] theorem sNx_at : sNx en = .nx en := rfl
@[simp] theorem aNil_at : aNil en = .ok [] := rfl
def cA' : Rv → Rvs → Rvs
  | .ok t, .ok ts => .ok (t :: ts)
  | .ok _, r => r
  | .ex x, _ => .ex x
  | .no, _ => .no
@[simp] theorem aCons_at : aCons g gs en = cA' (g en) (gs en) := by
  unfold aCons cA'
  cases g en with
  | ok t => cases gs en <;> rfl
  | _ => rfl
@[simp] theorem cA_ok {t : T} {ts : List T} : cA' (.ok t) (.ok ts) = .ok (t :: ts) := rfl
def caR (r : List T → Cr) : Rvs → Rv
  | .ok ts => (r ts).v
  | .ex x => .ex x
  | .no => .no
@[simp] theorem vCall_at {r : List T → Cr} : vCall r gs en = caR r (gs en) := by unfold vCall caR; cases gs en <;> rfl
@[simp] theorem caR_ok {r : List T → Cr} {ts : List T} : caR r (.ok ts) = (r ts).v := rfl
def tuR : Rvs → Rv
  | .ok ts => .ok (mkTup ts)
  | .ex x => .ex x
  | .no => .no
@[simp] theorem vTup_at : vTup gs en = tuR (gs en) := by unfold vTup tuR; cases gs en <;> rfl
@[simp] theorem tuR_ok {ts : List T} : tuR (.ok ts) = .ok (mkTup ts) := rfl
@[simp] theorem mkTup_2 {a b : D} : mkTup [.f a, .f b] = .f (.n .tup [a, b]) := rfl
@[simp] theorem mkTup_3 {a b c : D} : mkTup [.f a, .f b, .f c] = .f (.n .tup [a, b, c]) := rfl
@[simp] theorem mkTup_4 {a b c d : D} : mkTup [.f a, .f b, .f c, .f d] = .f (.n .tup [a, b, c, d]) := rfl
def liR : Rvs → Rv
  | .ok ts => .ok (.n .ow .lst ts)
  | .ex x => .ex x
  | .no => .no
@[simp] theorem vLst_at : vLst gs en = liR (gs en) := by unfold vLst liR; cases gs en <;> rfl
@[simp] theorem liR_ok {ts : List T} : liR (.ok ts) = .ok (.n .ow .lst ts) := rfl
def raS (c : String) (fis : List (Str × Nat)) : Rvs → En → So
  | .ok ts, en => (match allF ts with
    | some ds => .ex (mkX c fis ds) en
    | none => .no)
  | .ex x, en => .ex x en
  | .no, _ => .no
@[simp] theorem sRaise_at {c : String} {fis : List (Str × Nat)} : sRaise c fis gs en = raS c fis (gs en) en := by unfold sRaise raS; cases gs en <;> rfl
@[simp] theorem raS_1 {c : String} {f : Str} {a : D} : raS c [(f, 0)] (.ok [.f a]) en = .ex ⟨c, [f], [a]⟩ en := rfl
def mvR : Option (Option T) → En → Rs
  | some (some t), e => .ok t e
  | _, _ => .no
@[simp] theorem dMv_at {i : Nat} : dMv i en = mvR en[i]? (en.set i none) := by unfold dMv mvR; split <;> simp_all
@[simp] theorem mvR_some {t : T} {e : En} : mvR (some (some t)) e = .ok t e := rfl
def fzR (i : Nat) : Option (Option T) → En → Rs
  | some (some t), e => if noLk t = true then .ok (.f (era t)) (e.set i (some (.f (era t)))) else .no
  | _, _ => .no
@[simp] theorem dFz_at {i : Nat} : dFz i en = fzR i en[i]? en := by unfold dFz fzR; split <;> simp_all
@[simp] theorem fzR_some {i : Nat} {t : T} {e : En} : fzR i (some (some t)) e = if noLk t = true then .ok (.f (era t)) (e.set i (some (.f (era t)))) else .no := rfl
@[simp] theorem era_f {d : D} : era (.f d) = d := rfl
/-! ### the end of a def -/
@[simp] theorem fin_rt {n : Nat} {ws : List Nat} {t : T} {e : En} : (fin n ws (.rt t e)).v = .ok t := rfl
@[simp] theorem fin_nx {n : Nat} {ws : List Nat} {e : En} : (fin n ws (.nx e)).v = .ok .o := rfl
@[simp] theorem fin_ex {n : Nat} {ws : List Nat} {x : Ex} {e : En} : (fin n ws (.ex x e)).v = .ex x := rfl
@[simp] theorem fin_ite {n : Nat} {ws : List Nat} {c : Prop} [Decidable c] {x y : So} : (fin n ws (if c then x else y)).v = if c then (fin n ws x).v else (fin n ws y).v := by split <;> rfl
@[simp] theorem ini_at {N : Nat} {ts : List T} : ini N ts = ts.map some ++ List.replicate (N - ts.length) none := rfl
/-! ### try -/
def trS (i : Nat) (ca : String → Option Bool) (su : En → So) : So → So
  | .ex x e => (match ca x.c with
    | some true => tryR i (su (e.set i (some (.f (.n (.exc x.c x.fs) x.ds)))))
    | some false => .ex x e
    | none => .no)
  | r => r
@[simp] theorem sTryAs_at {i : Nat} {ca : String → Option Bool} : sTryAs i ca s1 s2 en = trS i ca s2 (s1 en) := by unfold sTryAs trS; cases s1 en <;> rfl
@[simp] theorem trS_nx {i : Nat} {ca : String → Option Bool} {e : En} : trS i ca s (.nx e) = .nx e := rfl
@[simp] theorem trS_rt {i : Nat} {ca : String → Option Bool} {t : T} {e : En} : trS i ca s (.rt t e) = .rt t e := rfl
theorem trS_ex {i : Nat} {ca : String → Option Bool} {x : Ex} {e : En} (h : ca x.c = some true) : trS i ca s (.ex x e) = tryR i (s (e.set i (some (.f (.n (.exc x.c x.fs) x.ds))))) := by
  unfold trS
  dsimp only
  rw [h]
@[simp] theorem tryR_rt {i : Nat} {t : T} {e : En} : tryR i (.rt t e) = if nxT t = true then .rt t (clr (e.set i none)) else .no := rfl
@[simp] theorem tryR_nx {i : Nat} {e : En} : tryR i (.nx e) = .nx (clr (e.set i none)) := rfl
@[simp] theorem tryR_ite {i : Nat} {c : Prop} [Decidable c] {x y : So} : tryR i (if c then x else y) = if c then tryR i x else tryR i y := by split <;> rfl
/-! ### operators -/
@[simp] theorem addT_i {i j : Int} : addT (.f (.a (.int i))) (.f (.a (.int j))) = some (.f (.a (.int (i + j)))) := rfl
@[simp] theorem subT_i {i j : Int} : subT (.f (.a (.int i))) (.f (.a (.int j))) = some (.f (.a (.int (i - j)))) := rfl
@[simp] theorem ltT_i {i j : Int} : ltT (.f (.a (.int i))) (.f (.a (.int j))) = some (.f (.a (.bl (decide (i < j))))) := rfl
@[simp] theorem leT_i {i j : Int} : leT (.f (.a (.int i))) (.f (.a (.int j))) = some (.f (.a (.bl (decide (i ≤ j))))) := rfl
@[simp] theorem gtT_i {i j : Int} : gtT (.f (.a (.int i))) (.f (.a (.int j))) = some (.f (.a (.bl (decide (j < i))))) := rfl
@[simp] theorem geT_i {i j : Int} : geT (.f (.a (.int i))) (.f (.a (.int j))) = some (.f (.a (.bl (decide (j ≤ i))))) := rfl
@[simp] theorem negT_i {i : Int} : negT (.f (.a (.int i))) = some (.f (.a (.int (-i)))) := rfl
@[simp] theorem maxT_i {i j : Int} : maxT (.f (.a (.int i))) (.f (.a (.int j))) = some (.f (.a (.int (if j > i then j else i)))) := rfl
@[simp] theorem minT_i {i j : Int} : minT (.f (.a (.int i))) (.f (.a (.int j))) = some (.f (.a (.int (if j < i then j else i)))) := rfl
theorem mulT_i {i j : Int} (h : mulC i j = true) : mulT (.f (.a (.int i))) (.f (.a (.int j))) = some (.f (.a (.int (i * j)))) := if_pos h
theorem mulC_l {i j : Int} (h : -(2 ^ 64) < i ∧ i < 2 ^ 64) : mulC i j = true := by
  unfold mulC
  rw [decide_eq_true h]
  rfl
theorem mulC_r {i j : Int} (h : -(2 ^ 64) < j ∧ j < 2 ^ 64) : mulC i j = true := by
  unfold mulC
  rw [decide_eq_true h, Bool.or_true]
  rfl
theorem modT_i {i j : Int} (h : 0 < j) : modT (.f (.a (.int i))) (.f (.a (.int j))) = some (.f (.a (.int (i % j)))) := if_pos (decide_eq_true h)
theorem log2_small {j : Int} (h : 0 < j ∧ j < 1073741824) : j ≠ 0 ∧ j.natAbs.log2 < 9000 := by
  refine ⟨by omega, ?_⟩
  have h1 : j.natAbs ≠ 0 := by omega
  have h2 : j.natAbs.log2 < 30 := (Nat.log2_lt h1).mpr (by
    have e : (2 : Nat) ^ 30 = 1073741824 := by decide
    omega)
  omega
theorem fdivT_w {i j : Int} (h : 0 < j) (h2 : j.natAbs.log2 < 9000) : fdivT (.f (.a (.int i))) (.f (.a (.int j))) = some (.f (.a (.int (i / j)))) := by
  show (if decide (j ≠ 0 ∧ j.natAbs.log2 < 9000) = true then some (T.f (.a (.int (if 0 < j then i / j else i.fdiv j)))) else none) = _
  rw [if_pos (decide_eq_true ⟨by omega, h2⟩), if_pos h]
theorem fdivT_i {i j : Int} (h : 0 < j ∧ j < 1073741824) : fdivT (.f (.a (.int i))) (.f (.a (.int j))) = some (.f (.a (.int (i / j)))) := fdivT_w h.1 (log2_small h).2
theorem powT_i {i j : Int} (h : 0 ≤ j ∧ j ≤ 1000000 ∧ i.natAbs < 2 ^ 64) : powT (.f (.a (.int i))) (.f (.a (.int j))) = some (.f (.a (.int (i ^ j.toNat)))) := if_pos (decide_eq_true h)
@[simp] theorem fl_int {i j : Int} : (Fl.int i = Fl.int j) ↔ i = j := ⟨Fl.int.inj, fun e => by rw [e]⟩
@[simp] theorem fl_str {i j : Str} : (Fl.str i = Fl.str j) ↔ i = j := ⟨Fl.str.inj, fun e => by rw [e]⟩
@[simp] theorem fl_bl {i j : Bool} : (Fl.bl i = Fl.bl j) ↔ i = j := ⟨Fl.bl.inj, fun e => by rw [e]⟩
theorem eqT_f {x y : Fl} (h : scalF x y = true) : eqT (.f (.a x)) (.f (.a y)) = some (.f (.a (.bl (decide (x = y))))) := by
  unfold eqT eqF
  dsimp only
  rw [if_pos h]
theorem neT_f {x y : Fl} (h : scalF x y = true) : neT (.f (.a x)) (.f (.a y)) = some (.f (.a (.bl (!decide (x = y))))) := by
  unfold neT eqF
  dsimp only
  rw [if_pos h]
@[simp] theorem eqT_i {i j : Int} : eqT (.f (.a (.int i))) (.f (.a (.int j))) = some (.f (.a (.bl (decide (i = j))))) := by rw [eqT_f rfl]; simp
@[simp] theorem neT_i {i j : Int} : neT (.f (.a (.int i))) (.f (.a (.int j))) = some (.f (.a (.bl (!decide (i = j))))) := by rw [neT_f rfl]; simp
@[simp] theorem eqT_s {i j : Str} : eqT (.f (.a (.str i))) (.f (.a (.str j))) = some (.f (.a (.bl (decide (i = j))))) := by rw [eqT_f rfl]; simp
@[simp] theorem neT_s {i j : Str} : neT (.f (.a (.str i))) (.f (.a (.str j))) = some (.f (.a (.bl (!decide (i = j))))) := by rw [neT_f rfl]; simp
@[simp] theorem eqT_b {i j : Bool} : eqT (.f (.a (.bl i))) (.f (.a (.bl j))) = some (.f (.a (.bl (decide (i = j))))) := by rw [eqT_f rfl]; simp
@[simp] theorem neT_b {i j : Bool} : neT (.f (.a (.bl i))) (.f (.a (.bl j))) = some (.f (.a (.bl (!decide (i = j))))) := by rw [neT_f rfl]; simp
@[simp] theorem lenT_s {i : Str} : lenT (.f (.a (.str i))) = if i.length ≤ LINE then some (.f (.a (.int i.length))) else none := rfl
@[simp] theorem lenT_l {ds : List D} : lenT (.f (.n .lst ds)) = some (.f (.a (.int ds.length))) := by
  show some (T.i ((ds.map T.f).length : Nat)) = _
  rw [List.length_map]
@[simp] theorem lenT_scr {ns : List Int} : lenT (scr ns) = some (.f (.a (.int ns.length))) := by
  show some (T.i (((ns.map fun i => D.a (.int i)).map T.f).length : Nat)) = _
  rw [List.length_map, List.length_map]
@[simp] theorem lock_scr {ns : List Int} : lock (scr ns) = scr ns := rfl
@[simp] theorem lkO_scr {ns : List Int} : lkO (some (some (scr ns))) = .ok (scr ns) := rfl
theorem idx_scr {ns : List Int} {k : Nat} (h : k < ns.length) : idxT (scr ns) (.f (.a (.int k))) = some (.f (.a (.int (ns.getD k 0)))) := by
  show atI ((ns.map fun i => D.a (.int i)).map T.f) (k : Int) = _
  unfold atI ixN
  have h1 : ((ns.map fun i => D.a (.int i)).map T.f).length = ns.length := by rw [List.length_map, List.length_map]
  rw [h1]
  simp [h, List.getD]
/-! ### loops -/
theorem lp_inv {b : T → En → Option En} {s : En → So} {J : En → Prop} : ∀ {items : List T}, (∀ t ∈ items, ∀ en, J en → ∃ e1 e2, b t en = some e1 ∧ s e1 = .nx e2 ∧ J e2) → ∀ en, J en → ∃ e, lp b s items en = .nx e ∧ J e
  | [], _, en, j => ⟨en, rfl, j⟩
  | t :: ts, h, en, j => by
    obtain ⟨e1, e2, h1, h2, h3⟩ := h t List.mem_cons_self en j
    obtain ⟨e, h4, h5⟩ := lp_inv (fun u hu => h u (List.mem_cons_of_mem _ hu)) e2 h3
    refine ⟨e, ?_, h5⟩
    unfold lp
    rw [h1]
    dsimp only
    rw [h2]
    exact h4
def foS (b : T → En → Option En) (s : En → So) (en : En) : Ri → So
  | .ok ts => lp b s ts en
  | .ex x => .ex x en
  | .no => .no
@[simp] theorem sFor_at {gi : En → Ri} {b : T → En → Option En} : sFor gi b s en = foS b s en (gi en) := by unfold sFor foS; cases gi en <;> rfl
@[simp] theorem foS_ok {b : T → En → Option En} {ts : List T} : foS b s en (.ok ts) = lp b s ts en := rfl
def rnR : Rvs → Ri
  | .ok ts => (match rngI ts with
    | some us => .ok us
    | none => .no)
  | .ex x => .ex x
  | .no => .no
@[simp] theorem iRng_at : iRng gs en = rnR (gs en) := by unfold iRng rnR; cases gs en <;> rfl
theorem rnR_1 {j : Int} (h : -(2 ^ 62) ≤ j ∧ j < 2 ^ 62) : rnR (.ok [.f (.a (.int j))]) = .ok ((List.range j.toNat).map fun i : Nat => T.i (i : Int)) := by
  unfold rnR rngI
  dsimp only
  rw [if_pos h]
@[simp] theorem isB_f {tb : List (Cd × Bool)} {x : Fl} : isB tb (.f (.a x)) = (tb.lookup (.ty (tyF x))).map T.b := rfl
@[simp] theorem isB_x {tb : List (Cd × Bool)} {c : String} {fs : List Str} {ds : List D} : isB tb (.f (.n (.exc c fs) ds)) = (tb.lookup (.own c)).map T.b := rfl
@[simp] theorem xfT_x {cs : List String} {f : Str} {c : String} {fs : List Str} {ds : List D} : xfT cs f (.f (.n (.exc c fs) ds)) = if cs.contains c = true then fget fs (ds.map T.f) f else none := rfl
@[simp] theorem idx_tup {ds : List D} {i : Int} : idxT (.f (.n .tup ds)) (.f (.a (.int i))) = atI (ds.map T.f) i := rfl
@[simp] theorem gN_at {i : Nat} {t : T} : gN i t en = some (en.set i (some t)) := rfl
end
end DT
/-! Data trees, part 13: frozen names, unpacking, lists that grow, slices, built-in functions and methods. -/
namespace DT
open PySem L2
variable {K : Gx}

/-! ### a name frozen ahead of a statement -/
def sFz (i : Nat) (s : En → So) : En → So := fun en => match en[i]? with
  | some (some t) => if noLk t = true then s (en.set i (some (.f (era t)))) else s en
  | _ => s en
theorem tS_fz {s : En → So} {W : WX} {ws : List Nat} {i : Nat} {D : Ends} {σ : L2.St} {H : Hp} (q : tS K (sFz i s) W ws D σ H) : tS K s W ws D σ H := by
  obtain ⟨F, L, A, en, S, q⟩ := q
  unfold sFz at q
  cases e1 : en[i]? with
  | none =>
    rw [e1] at q
    exact ⟨F, L, A, en, S, q⟩
  | some o =>
    cases o with
    | none =>
      rw [e1] at q
      exact ⟨F, L, A, en, S, q⟩
    | some t =>
      rw [e1] at q
      dsimp only at q
      by_cases nl : noLk t = true
      · rw [if_pos nl] at q
        obtain ⟨o, Ai, Ar, h1, h2, rfl, h4, h5, h6⟩ := Slots.focus S.sl e1
        cases o with
        | none => exact h2.elim
        | some v =>
          have hle : Same F (frz F H Ai) := frz_le fun p z => S.nF p (.inl z)
          have rd : RepD K (frz F H Ai) (era t) v := Rep.freeze (Le.of hle) t v Ai nl (fun p z => frz_in z) h2
          have s1 := h6 (F' := frz F H Ai) (H' := H) (Le.of hle) (Le.refl L) (fun _ _ => rfl) (some v) (some (.f (era t))) fe (show Rep K _ _ _ _ _ _ by unfold Rep; exact ⟨rfl, rd⟩) e_dj
          rw [set_self h1, e_fu] at s1
          refine ⟨frz F H Ai, L, Ar, _, ⟨s1, frz_same S.sF, S.sL, fun p z => ?_, fun p z => S.nL p (.inr z)⟩, Cl.on ⟨fun a o e _ => e, fun a z => .inl (.inr z), hle, fun a e n => ?_, frz_same S.sF⟩ Wr.refl (fun _ z => z) q⟩
          · rw [frz_out fun w => h4 p w z]
            exact S.nF p (.inr z)
          · by_cases z : Ai a
            · exact .inl (.inl z)
            · rw [frz_out z] at n
              exact absurd e n
      · rw [if_neg nl] at q
        exact ⟨F, L, A, en, S, q⟩
section
variable {X : Cx} {W : Wt} {e a b c o : Expr} {es : List Expr} {pos pos' np p apos p2 : Pos} {g g1 g2 g3 : En → Rv} {gs : En → Rvs} {k l n : Nat} {x : Str} {f : En → Rs} {s : En → So} {ws w1 : List Nat} {st : Stmt}
theorem SE.fzn (i : Nat) (h : SE X W s ws st) : SE X W (sFz i s) ws st := ps_imp h fun D σ H q => tS_fz q

/-! ### unpacking -/
def sAsgG (b : T → En → Option En) (f : En → Rs) : En → So := fun en => match f en with
  | .ok t e => (if noLk t = true then (match b t e with
    | some e1 => .nx e1
    | none => .no) else .no)
  | .ex x e => .ex x e
  | .no => .no
theorem SE.asgG {tg : Expr} {bt : T → En → Option En} (h : DE X W f e) (hg : GE X W bt w1 tg) (hs : swapsWithSole [tg] e pos.line X.env = pure false := by rfl) (hw : swappedStores [tg] e X.env = pure none := by rfl)
    (h1 : (assignEach [tg] X.env).map (·.2) = [assign tg X.env] := by rfl) : SE X W (sAsgG bt f) w1 (.Assign [tg] e pos) := ps_imp (ps_asg h hg hs hw h1) fun D σ H q => by
  obtain ⟨F, L, A, en, S, q⟩ := q
  refine ⟨F, L, A, en, S, ?_⟩
  unfold sAsgG at q
  cases e1 : f en with
  | no =>
    rw [e1] at q
    exact q
  | ex x en1 =>
    rw [e1] at q
    exact fun cls d F' H' A' S' er st => q cls d σ F' H' A' S' er st Wr.refl
  | ok t en1 =>
    rw [e1] at q
    dsimp only at q
    by_cases nl : noLk t = true
    · rw [if_pos nl] at q
      intro v F' H' A' B S' r dj b1 b2 st
      cases e2 : bt t en1 with
      | none =>
        rw [e2] at q
        exact q.elim
      | some e3 =>
        rw [e2] at q
        exact ⟨F', L, A', B, en1, t, e3, S', Rep.keepN (L' := L) (Le.refl _) t v B nl (fun _ _ => rfl) r, dj, b1, b2, e2, fun σ' A2 S2 i2 wr => q σ' F' H' A2 S2 (st.sub i2) wr⟩
    · rw [if_neg nl] at q
      exact q.elim

/-! ### a list that grows -/
def sApp (i : Nat) (g : En → Rv) : En → So := fun en => match en[i]? with
  | some (some (.n .ow .lst ts)) => (match g en with
    | .ok u => if noLk u = true ∧ ts.length < LINE then .nx (en.set i (some (.n .ow .lst (ts ++ [u])))) else .no
    | .ex x => .ex x en
    | .no => .no)
  | _ => .no
/-- an owned object in a slot gets new parts -/
theorem Stk.write {F L H F' H' : Hp} {σ : L2.St} {en : En} {A B : Fp} {i : Nat} {k k' : Kd} {ts ts' : List T} (S : Stk K F L H σ en A) (e : en[i]? = some (some (.n .ow k ts))) (p : Pur F H F' H') (hB : ∀ a, B a → H a = none) (hF : ∀ a, B a → F' a = none) :
    ∃ (q : Addr) (vs : List V) (Bi : Fp), σ[i]? = some (some (.ref q)) ∧ H q ≠ none ∧ ObX K H' q k vs ∧ Reps K F' L H' ts vs Bi ∧ Dj Bi B ∧ ¬ Bi q ∧ (∀ a, Bi a → H' a = H a) ∧
      ∀ (o : HO) (vs' : List V) (B' : Fp), ObX K (upd H' q o) q k' vs' → Reps K F' L (upd H' q o) ts' vs' B' → (∀ a, B' a → Bi a ∨ B a) → ∃ A', Stk K F' L (upd H' q o) σ (en.set i (some (.n .ow k' ts'))) A' ∧ Step F H A F' (upd H' q o) A' := by
  obtain ⟨ov, Ai, Ar, h1, h2, rfl, h4, h5, h6⟩ := Slots.focus S.sl e
  cases ov with
  | none => exact h2.elim
  | some v =>
    have h2' : Rep K F L H (.n .ow k ts) v Ai := h2
    unfold Rep at h2'
    obtain ⟨q, vs, Bi, rfl, hx, hn, rfl, hr⟩ := h2'
    have hq : H q ≠ none := hx.dom
    have dm := Reps.dom ts vs Bi hr
    have eq : ∀ a, H a ≠ none → H' a = H a := fun a z => Same.eq p.h z
    refine ⟨q, vs, Bi, h1, hq, hx.at (eq q hq), Reps.keep (Le.of p.f) (Le.refl L) ts vs Bi (fun a z => eq a (dm a z)) hr, fun a z y => dm a z (hB a y), hn, fun a z => eq a (dm a z), ?_⟩
    intro o vs' B' ox r' iB
    have nB' : ¬ B' q := fun z => (iB q z).elim hn fun y => hq (hB q y)
    have rep : Rep K F' L (upd H' q o) (.n .ow k' ts') (.ref q) (fu (fo q) B') := by
      unfold Rep
      exact ⟨q, vs', B', rfl, ox, nB', rfl, r'⟩
    have arq : ∀ a, Ar a → a ≠ q := fun a z y => h4 q (.inl rfl) (y ▸ z)
    have djn : Dj (fu (fo q) B') Ar := fun a z y => by
      rcases z with z | z
      · exact arq a y z
      · rcases iB a z with z | z
        · exact h4 a (.inr z) y
        · exact h5 a y (hB a z)
    have s1 := h6 (F' := F') (L' := L) (H' := upd H' q o) (Le.of p.f) (Le.refl L) (fun a z => by rw [upd_ne (arq a z)]; exact eq a (h5 a z)) (some (.ref q)) (some (.n .ow k' ts')) (fu (fo q) B') rep djn
    rw [set_self h1] at s1
    have Sp := S.pur p
    have nFq : F' q = none := Sp.nF q (.inl (.inl rfl))
    have nLq : L q = none := S.nL q (.inl (.inl rfl))
    have inA : ∀ a, fu (fu (fo q) B') Ar a → fu (fu (fo q) Bi) Ar a ∨ B a := fun a z => by
      rcases z with (z | z) | z
      · exact .inl (.inl (.inl z))
      · exact (iB a z).imp (fun y => .inl (.inr y)) id
      · exact .inl (.inr z)
    refine ⟨fu (fu (fo q) B') Ar, ⟨s1, fun a u z => by rw [upd_ne (ne_of_none z nFq)]; exact Sp.sF a u z, fun a u z => by rw [upd_ne (ne_of_none z nLq)]; exact Sp.sL a u z, fun a z => (inA a z).elim (Sp.nF a) (hF a), fun a z => (inA a z).elim (S.nL a) fun y => S.sL.free (hB a y)⟩, ?_⟩
    exact ⟨fun a u z n => by
        have : a ≠ q := fun y => n (.inl (.inl y))
        rw [upd_ne this]
        exact p.h a u z, fun a z => (inA a z).imp id (hB a), p.f, fun a z n => .inr (p.g a z n), fun a u z => by
        rw [upd_ne (ne_of_none z nFq)]
        exact Sp.sF a u z⟩
theorem SE.append {i : Nat} (h : VE X W g e) (hN : X.N[i]? = some x := by rfl) (hv : Vis X.env.scope x := by first | exact Or.inl rfl | exact Or.inr (Or.inl rfl) | exact Or.inr (Or.inr rfl)) (hd : (x == ("__debug__" : Str)) = false := by decide)
    (hcd : (x == ("__classdict__" : Str)) = false := by decide) (hbase : attributeBase (.Name x p2) "append" X.env (eval (.Name x p2) X.env) = eval (.Name x p2) X.env := by rfl)
    (hfew : ((backTo pos (starEach [e] X.env)).all (fun x => !x.1) && (backToKw pos (keywordEach [] X.env)).all (fun x => x.1.isSome) && decide (([e] : List Expr).length + ([] : List Keyword).length + (if ([] : List Keyword).isEmpty then 0 else 1) < 30)) = true := by rfl)
    (hline : (apos.endLine == pos.line) = true := by rfl) (hs : starEach [e] X.env = (false, eval e X.env) :: starEach [] X.env := by rfl) (hplain : (backTo pos (starEach [] X.env)).any (·.1) = false := by rfl)
    (hsw : swapsWith (.Call (.Attribute (.Name x p2) "append" apos) [e] [] pos) none pos'.line X.env = pure false := by rfl) :
    SE X W (sApp i g) [] (.Expr (.Call (.Attribute (.Name x p2) "append" apos) [e] [] pos) pos') :=
  ps_imp (ps_expr (pe_bm PySem.F.plainAttrs_list PySem.F.slot_list_append PySem.F.type_list_append mt_append (pe_var hN hv hd hcd) (pa_cons h pa_nil hs) hbase hfew hline hs hplain) hsw) fun D σ H q => by
    obtain ⟨F, L, A, en, S, q⟩ := q
    unfold sApp at q
    split at q
    · rename_i ts e1
      have S0 := S
      obtain ⟨ov, Ai, Ar, h1, h2, _⟩ := Slots.focus S.sl e1
      cases ov with
      | none => exact h2.elim
      | some v =>
        have h2' : Rep (gx X W) F L H (.n .ow .lst ts) v Ai := h2
        unfold Rep at h2'
        obtain ⟨a, vs, Bi, rfl, hx, hn, _, hr⟩ := h2'
        refine ⟨.ref a, h1, .inl ⟨rfl, vs, SqL.of (show H a = some (.lst vs) from hx)⟩, F, L, A, en, S, ?_⟩
        cases e2 : g en with
        | no =>
          rw [e2] at q
          exact q
        | ex y =>
          rw [e2] at q
          exact fun cls d F' H' pu er => q cls d σ F' H' A (S.pur pu) er pu.step0 Wr.refl
        | ok u =>
          rw [e2] at q
          dsimp only at q
          by_cases hu : noLk u = true ∧ ts.length < LINE
          · rw [if_pos hu] at q
            intro y F' H' B pu r b1 b2
            obtain ⟨a', vs', Bi', k1, k2, k3, k4, k5, k6, k7, k8⟩ := Stk.write (k' := .lst) (ts' := ts ++ [u]) S e1 pu b1 b2
            rw [h1] at k1
            cases k1
            have hl : vs'.length = ts.length := (Reps.length k4).symm
            refine ⟨a, vs', y, rfl, rfl, k3, by rw [hl]; exact line_lt hu.2, ?_⟩
            have nq : ∀ z, Bi' z → z ≠ a := fun z w y => k6 (y ▸ w)
            have nB : ∀ z, B z → z ≠ a := fun z w y => k2 (y ▸ b1 z w)
            obtain ⟨A', S', st⟩ := k8 (.lst (vs' ++ [y])) (vs' ++ [y]) (fu Bi' B) upd_same (Reps.append (Reps.keep (Le.refl _) (Le.refl _) ts vs' Bi' (fun z w => upd_ne (nq z w)) k4)
              (by
                unfold Reps
                exact ⟨y, [], B, fe, rfl, fu_e.symm, dj_e, Rep.keepN (Le.refl _) u y B hu.1 (fun z w => upd_ne (nB z w)) r, Reps.nil⟩) k5) (fun z w => w)
            exact q σ _ _ A' S' st Wr.refl
          · rw [if_neg hu] at q
            exact q.elim
    · exact q.elim
end
end DT
/-! Data trees, part 14: items that are set, slices, built-in functions and methods. -/
namespace DT
open PySem L2
variable {K : Gx}

/-! ### x[i] = e, d[k] = e -/
abbrev rSetA : V → V → V → Hp → (Hp → Prop) → Prop := fun o i v H Q => rSetL o i v H Q ∨ rSetD o i v H Q
theorem set_any {X : Cx} (hu : X.A.units + 1 < cLine) : PSet X rSetA := by
  intro pins s σ H o i v ov iv u Q I r1 r2 r3 q
  rcases q with q | q
  · exact set_list pins s σ H o i v ov iv u Q I r1 r2 r3 q
  · exact set_dict hu pins s σ H o i v ov iv u Q I r1 r2 r3 q
def putT (k : Kd) (ts : List T) (t u : T) : Option (Kd × List T) := match k with
  | .lst => (match t with
    | .f (.a (.int i)) => (ixN ts.length i).map fun j => (.lst, ts.set j u)
    | _ => none)
  | .dic ks => (match keyT t with
    | some q => if ks.length < LINE ∧ ks.Nodup then some (.dic (dputK ks q), dputV ks ts q u) else none
    | none => none)
  | _ => none
def sPut (i : Nat) (gi gv : En → Rv) : En → So := fun en => match gv en with
  | .ok u => (match gi en with
    | .ok t => (match en[i]? with
      | some (some (.n .ow k ts)) => (match putT k ts t u with
        | some (k', ts') => if noLk u = true then .nx (en.set i (some (.n .ow k' ts'))) else .no
        | none => .no)
      | _ => .no)
    | _ => .no)
  | .ex x => .ex x en
  | .no => .no
theorem Reps.set {F L H : Hp} : ∀ {ts : List T} {vs : List V} {A B : Fp} {j : Nat} {u : T} {y : V}, Reps K F L H ts vs A → Rep K F L H u y B → Dj A B → ∃ C, Reps K F L H (ts.set j u) (vs.set j y) C ∧ ∀ p, C p → A p ∨ B p
  | [], vs, A, B, j, u, y, h, r, dj => by
    unfold Reps at h
    obtain ⟨rfl, rfl⟩ := h
    exact ⟨fe, by show Reps K F L H [] [] fe; unfold Reps; exact ⟨rfl, rfl⟩, fun _ z => z.elim⟩
  | t :: ts, vs, A, B, j, u, y, h, r, dj => by
    unfold Reps at h
    obtain ⟨v, ws, A1, A2, rfl, rfl, c, d, e⟩ := h
    cases j with
    | zero =>
      refine ⟨fu B A2, ?_, fun p z => z.elim .inr fun z => .inl (.inr z)⟩
      show Reps K F L H (u :: ts) (y :: ws) _
      unfold Reps
      exact ⟨y, ws, B, A2, rfl, rfl, fun p x z => dj p (.inr z) x, r, e⟩
    | succ j =>
      obtain ⟨C, h1, h2⟩ := Reps.set (j := j) e r fun p x z => dj p (.inr x) z
      refine ⟨fu A1 C, ?_, fun p z => z.elim (fun z => .inl (.inl z)) fun z => (h2 p z).imp .inr id⟩
      show Reps K F L H (t :: ts.set j u) (v :: ws.set j y) _
      unfold Reps
      exact ⟨v, _, A1, C, rfl, rfl, fun p x z => (h2 p z).elim (c p x) (dj p (.inl x)), d, h1⟩
theorem dput_len {α : Type} : ∀ {ks : List Key} {vs : List α} {q : Key} {y : α}, ks.length = vs.length → (dputK ks q).length = (dputV ks vs q y).length
  | [], [], q, y, h => rfl
  | k :: ks, v :: vs, q, y, h => by
    have h' : ks.length = vs.length := by simpa using h
    unfold dputK dputV
    by_cases e : k = q
    · simp [e, h']
    · simp [e, dput_len (q := q) (y := y) h']
  | [], _ :: _, _, _, h => by cases h
  | _ :: _, [], _, _, h => by cases h
theorem map_put {q : Key} {z : V} : ∀ {ks : List Key} {ws : List V}, q ∉ ks → ((ks.zip ws).map fun kv => if kv.1 = q then (kv.1, z) else kv) = ks.zip ws
  | [], _, _ => rfl
  | _ :: _, [], _ => rfl
  | k :: ks, w :: ws, h => by
    have h1 : ¬ k = q := fun e => h (by rw [e]; exact List.mem_cons_self)
    have h2 : q ∉ ks := fun e => h (List.mem_cons_of_mem _ e)
    rw [List.zip_cons_cons, List.map_cons, map_put h2]
    simp [h1]
theorem dput_zip {q : Key} {z : V} : ∀ {ks : List Key} {ws : List V}, ks.Nodup → ks.length = ws.length → (dputK ks q).zip (dputV ks ws q z) = putK (ks.zip ws) q z
  | [], [], _, _ => rfl
  | k :: ks, w :: ws, nd, h => by
    obtain ⟨n1, n2⟩ := List.nodup_cons.mp nd
    have ih := dput_zip (q := q) (z := z) n2 (show ks.length = ws.length by simpa using h)
    unfold dputK dputV
    by_cases e : k = q
    · subst e
      have m := map_put (z := z) (ws := ws) n1
      simp [putK, m]
    · rw [if_neg e, if_neg e, List.zip_cons_cons, ih]
      unfold putK
      simp only [List.zip_cons_cons, List.any_cons, List.map_cons]
      have e1 : decide (k = q) = false := decide_eq_false e
      simp only [e1, Bool.false_or, if_neg e]
      split <;> rfl
  | [], _ :: _, _, h => by cases h
  | _ :: _, [], _, h => by cases h
theorem Reps.dput {F L H : Hp} : ∀ {ks : List Key} {ts : List T} {vs : List V} {A B : Fp} {q : Key} {u : T} {y : V}, Reps K F L H ts vs A → ks.length = vs.length → Rep K F L H u y B → Dj A B → ∃ C, Reps K F L H (dputV ks ts q u) (dputV ks vs q y) C ∧ ∀ p, C p → A p ∨ B p
  | [], ts, vs, A, B, q, u, y, h, hl, r, dj => by
    cases vs with
    | cons => cases hl
    | nil =>
      cases ts with
      | cons => exact absurd (Reps.length h) (by simp)
      | nil =>
        refine ⟨B, ?_, fun _ z => .inr z⟩
        show Reps K F L H [u] [y] B
        unfold Reps
        exact ⟨y, [], B, fe, rfl, fu_e.symm, dj_e, r, Reps.nil⟩
  | k :: ks, [], vs, A, B, q, u, y, h, hl, r, dj => by
    unfold Reps at h
    obtain ⟨rfl, _⟩ := h
    cases hl
  | k :: ks, t :: ts, vs, A, B, q, u, y, h, hl, r, dj => by
    unfold Reps at h
    obtain ⟨v, ws, A1, A2, rfl, rfl, c, d, e⟩ := h
    unfold dputV
    by_cases ek : k = q
    · rw [if_pos ek, if_pos ek]
      refine ⟨fu B A2, ?_, fun p z => z.elim .inr fun z => .inl (.inr z)⟩
      unfold Reps
      exact ⟨y, ws, B, A2, rfl, rfl, fun p x z => dj p (.inr z) x, r, e⟩
    · rw [if_neg ek, if_neg ek]
      obtain ⟨C, h1, h2⟩ := Reps.dput (q := q) e (by simpa using hl) r fun p x z => dj p (.inr x) z
      refine ⟨fu A1 C, ?_, fun p z => z.elim (fun z => .inl (.inl z)) fun z => (h2 p z).imp .inr id⟩
      unfold Reps
      exact ⟨v, _, A1, C, rfl, rfl, fun p x z => (h2 p z).elim (c p x) (dj p (.inl x)), d, h1⟩
section
variable {X : Cx} {W : Wt} {e a b c o : Expr} {es : List Expr} {pos pos' np p apos p2 : Pos} {g g1 g2 g3 gi gv : En → Rv} {gs : En → Rvs} {k l n : Nat} {x : Str} {f : En → Rs} {s : En → So} {ws w1 : List Nat} {st : Stmt}
theorem Rep.flatB {F L H : Hp} {t : T} {v : V} {A : Fp} {q : Key} (r : Rep K F L H t v A) (e : keyT t = some q) : A = fe := by
  unfold keyT at e
  split at e
  · obtain ⟨_, h⟩ := r.flat
    exact h
  · cases e
theorem SE.put {i : Nat} (hu : X.A.units + 65 < cLine) (hi : VE X W gi e) (hv : VE X W gv a) (hN : X.N[i]? = some x := by rfl) (hvs : Vis X.env.scope x := by first | exact Or.inl rfl | exact Or.inr (Or.inl rfl) | exact Or.inr (Or.inr rfl)) (hd : (x == ("__debug__" : Str)) = false := by decide)
    (hcd : (x == ("__classdict__" : Str)) = false := by decide)
    (ha : ∀ v, assign (.Subscript (.Name x p2) e pos') X.env v = (do
      let ov ← holding [v] (eval (.Name x p2) X.env)
      let iv ← holding [v, ov] (eval e X.env)
      standAt pos'
      holding [v, ov, iv] (setItem ov iv v)
      release [v, ov, iv] []) := by intro _; rfl)
    (hs : swapsWithSole [.Subscript (.Name x p2) e pos'] a pos.line X.env = pure false := by rfl) (hw : swappedStores [.Subscript (.Name x p2) e pos'] a X.env = pure none := by rfl)
    (h1 : (assignEach [.Subscript (.Name x p2) e pos'] X.env).map (·.2) = [assign (.Subscript (.Name x p2) e pos') X.env] := by rfl) : SE X W (sPut i gi gv) [] (.Assign [.Subscript (.Name x p2) e pos'] a pos) :=
  ps_imp (ps_asg hv (pg_sub (pe_var hN hvs hd hcd) hi (set_any (by omega)) ha) hs hw h1) fun D σ H q => by
    obtain ⟨F, L, A, en, S, q⟩ := q
    refine ⟨F, L, A, en, S, ?_⟩
    unfold sPut at q
    cases e1 : gv en with
    | no =>
      rw [e1] at q
      exact q
    | ex y =>
      rw [e1] at q
      exact fun cls d F' H' pu er => q cls d σ F' H' A (S.pur pu) er pu.step0 Wr.refl
    | ok u =>
      rw [e1] at q
      dsimp only at q
      intro y F1 H1 B1 p1 r1 b1 c1
      have S1 := S.pur p1
      cases e2 : gi en with
      | no =>
        rw [e2] at q
        exact q.elim
      | ex z =>
        rw [e2] at q
        exact q.elim
      | ok t =>
        rw [e2] at q
        dsimp only at q
        split at q
        · rename_i k ts e3
          cases e4 : putT k ts t u with
          | none =>
            rw [e4] at q
            exact q.elim
          | some pr =>
            obtain ⟨k', ts'⟩ := pr
            rw [e4] at q
            dsimp only at q
            by_cases nl : noLk u = true
            · rw [if_pos nl] at q
              obtain ⟨ov, Ai, Ar, h1, h2, _⟩ := Slots.focus S1.sl e3
              cases ov with
              | none => exact h2.elim
              | some vv =>
                refine ⟨vv, h1, F1, L, A, en, S1, ?_⟩
                rw [e2]
                intro iv F2 H2 B2 p2 r2 b2 c2
                have d1 := Rep.dom _ _ _ r1
                have dj12 : Dj B1 B2 := fun z w y => d1 z w (b2 z y)
                have pt := p1.trans p2
                obtain ⟨q0, vs, Bi, k1, k2, k3, k4, k5, k6, k7, k8⟩ := Stk.write (k' := k') (ts' := ts') S e3 pt (B := B1) b1 (fun z w => by
                  by_cases h : F2 z = none
                  · exact h
                  · exact absurd (p2.g z (c1 z w) h) (d1 z w))
                rw [h1] at k1
                cases k1
                have r1' := Rep.keepN (L' := L) (Le.of p2.f) u y B1 nl (fun a z => Same.eq p2.h (d1 a z)) r1
                have lv := Reps.length k4
                have nq : ∀ z, Bi z → z ≠ q0 := fun z w y => k6 (y ▸ w)
                have nB : ∀ z, B1 z → z ≠ q0 := fun z w y => k2 (y ▸ b1 z w)
                have kk : ∀ oo : HO, Reps (gx X W) F2 L (upd H2 q0 oo) ts vs Bi ∧ Rep (gx X W) F2 L (upd H2 q0 oo) u y B1 := fun oo => ⟨Reps.keep (Le.refl _) (Le.refl _) ts vs Bi (fun z w => upd_ne (nq z w)) k4, Rep.keepN (Le.refl _) u y B1 nl (fun z w => upd_ne (nB z w)) r1'⟩
                unfold putT at e4
                split at e4
                · split at e4
                  · rename_i j
                    cases e5 : ixN ts.length j with
                    | none =>
                      rw [e5] at e4
                      cases e4
                    | some m =>
                      rw [e5] at e4
                      cases e4
                      obtain ⟨rfl, _⟩ := r2.flat
                      have k3' : H2 q0 = some (.lst vs) := k3
                      refine .inl ⟨q0, vs, j, m, rfl, rfl, k3', by rw [← lv]; exact e5, ?_⟩
                      obtain ⟨z1, z2⟩ := kk (.lst (vs.set m y))
                      obtain ⟨C, w1, w2⟩ := Reps.set (j := m) z1 z2 k5
                      obtain ⟨A', S', st⟩ := k8 (.lst (vs.set m y)) (vs.set m y) C upd_same w1 w2
                      exact q σ _ _ A' S' st Wr.refl
                  · cases e4
                · rename_i ks
                  split at e4
                  · rename_i q1 ek
                    split at e4
                    · rename_i hl
                      cases e4
                      have k3' : ks.length = vs.length ∧ H2 q0 = some (.dK (ks.zip vs)) := k3
                      have hy := keyT_v r2 ek
                      have l1 := dput_len (q := q1) (y := y) (show ks.length = vs.length from k3'.1)
                      refine .inr ⟨q0, upd H2 q0 (.dK ((dputK ks q1).zip (dputV ks vs q1 y))), rfl, .inl ⟨ks.zip vs, q1, k3'.2, hy, by rw [List.length_zip, ← k3'.1, Nat.min_self]; exact line_lt hl.1, by rw [dput_zip hl.2 k3'.1]⟩, ?_⟩
                      obtain ⟨z1, z2⟩ := kk (.dK ((dputK ks q1).zip (dputV ks vs q1 y)))
                      obtain ⟨C, w1, w2⟩ := Reps.dput (q := q1) z1 k3'.1 z2 k5
                      obtain ⟨A', S', st⟩ := k8 _ (dputV ks vs q1 y) C ⟨l1, upd_same⟩ w1 w2
                      exact q σ _ _ A' S' st Wr.refl
                    · cases e4
                  · cases e4
                · cases e4
            · rw [if_neg nl] at q
              exact q.elim
        · exact q.elim
end
end DT
/-! Data trees, part 15: slices, built-in functions, methods of texts. -/
namespace DT
open PySem L2
variable {K : Gx}

/-! ### slices -/
inductive Ro where
  | ok (o : Option Int) | ex (x : Ex) | no
def tO (K : Gx) (g : En → Ro) (W : WX) : TO := fun σ H Q => ∃ F L A en, Stk K F L H σ en A ∧ match g en with
  | .ok o => ∀ F' H', Pur F H F' H' → Q o H'
  | .ex x => ∀ cls d F' H', Pur F H F' H' → ExRep K F' cls d x → W cls d σ H'
  | .no => False
abbrev OE (X : Cx) (W : Wt) (g : En → Ro) (e : Option Expr) : Prop := PO X e (tO (gx X W) g W.w)
def oN : En → Ro := fun _ => .ok none
def intR : T → Option Int
  | .f (.a (.int i)) => some i
  | _ => none
theorem intR_ok {t : T} {i : Int} (h : intR t = some i) : t = .f (.a (.int i)) := by
  unfold intR at h
  split at h
  · cases h
    rfl
  · cases h
def oS (g : En → Rv) : En → Ro := fun en => match g en with
  | .ok t => (match intR t with
    | some i => .ok (some i)
    | none => .no)
  | .ex x => .ex x
  | .no => .no
theorem po_imp {X : Cx} {e : Option Expr} {t t' : TO} (h : PO X e t) (i : ∀ σ H Q, t' σ H Q → t σ H Q) : PO X e t' := ⟨fun pins s σ H Q I q => h.run pins s σ H Q I (i σ H Q q)⟩
def cutT {α : Type} (xs : List α) (lo hi : Option Int) : List α := (xs.drop (HT.sIx xs.length 0 lo)).take (HT.sIx xs.length xs.length hi - HT.sIx xs.length 0 lo)
def sliceT (t : T) (lo hi : Option Int) : Option T := match t with
  | .f (.a (.str z)) => if z.length ≤ LINE then some (.s (cutS z lo hi)) else none
  | _ => (match kids t with
    | some (.lst, ts) => some (.n .ow .lst (cutT ts lo hi))
    | some (.scr, ts) => some (.n .ow .lst (cutT ts lo hi))
    | _ => none)
def vSl (g : En → Rv) (gl gh : En → Ro) : En → Rv := fun en => match g en with
  | .ok t => (match gl en with
    | .ok l => (match gh en with
      | .ok u => (match sliceT t l u with
        | some r => .ok r
        | none => .no)
      | .ex x => .ex x
      | .no => .no)
    | .ex x => .ex x
    | .no => .no)
  | r => r
theorem Reps.drop {F L H : Hp} : ∀ {ts : List T} {vs : List V} {A : Fp} (n : Nat), Reps K F L H ts vs A → ∃ B, Reps K F L H (ts.drop n) (vs.drop n) B ∧ ∀ p, B p → A p
  | ts, vs, A, 0, h => ⟨A, h, fun _ z => z⟩
  | [], vs, A, n + 1, h => by
    have h0 := h
    unfold Reps at h
    obtain ⟨rfl, rfl⟩ := h
    exact ⟨fe, h0, fun _ z => z⟩
  | t :: ts, vs, A, n + 1, h => by
    unfold Reps at h
    obtain ⟨v, ws, A1, A2, rfl, rfl, c, d, e⟩ := h
    obtain ⟨B, h1, h2⟩ := Reps.drop n e
    exact ⟨B, h1, fun p z => .inr (h2 p z)⟩
theorem Reps.take {F L H : Hp} : ∀ {ts : List T} {vs : List V} {A : Fp} (n : Nat), Reps K F L H ts vs A → ∃ B, Reps K F L H (ts.take n) (vs.take n) B ∧ ∀ p, B p → A p
  | ts, vs, A, 0, h => ⟨fe, by show Reps K F L H (ts.take 0) (vs.take 0) fe; rw [List.take_zero, List.take_zero]; exact Reps.nil, fun _ z => z.elim⟩
  | [], vs, A, n + 1, h => by
    have h0 := h
    unfold Reps at h
    obtain ⟨rfl, rfl⟩ := h
    exact ⟨fe, h0, fun _ z => z⟩
  | t :: ts, vs, A, n + 1, h => by
    unfold Reps at h
    obtain ⟨v, ws, A1, A2, rfl, rfl, c, d, e⟩ := h
    obtain ⟨B, h1, h2⟩ := Reps.take n e
    refine ⟨fu A1 B, ?_, fun p z => z.elim .inl fun z => .inr (h2 p z)⟩
    show Reps K F L H (t :: ts.take n) (v :: ws.take n) _
    unfold Reps
    exact ⟨v, _, A1, B, rfl, rfl, fun p x z => c p x (h2 p z), d, h1⟩
theorem Reps.cut {F L H : Hp} {ts : List T} {vs : List V} {A : Fp} (lo hi : Option Int) (h : Reps K F L H ts vs A) : ∃ B, Reps K F L H (cutT ts lo hi) (cutV vs lo hi) B ∧ ∀ p, B p → A p := by
  have l := Reps.length h
  unfold cutT cutV
  rw [l]
  obtain ⟨B, h1, h2⟩ := Reps.drop (HT.sIx vs.length 0 lo) h
  obtain ⟨C, h3, h4⟩ := Reps.take (HT.sIx vs.length vs.length hi - HT.sIx vs.length 0 lo) h1
  exact ⟨C, h3, fun p z => h2 p (h4 p z)⟩
section
variable {X : Cx} {W : Wt} {e a b c o : Expr} {es : List Expr} {pos pos' np p apos p2 : Pos} {g g1 g2 g3 gi gv : En → Rv} {gs : En → Rvs} {k l n : Nat} {x : Str} {f : En → Rs} {s : En → So} {ws w1 : List Nat} {st : Stmt} {gl gh : En → Ro} {lo hi : Option Expr}
theorem OE.none : OE X W oN none := po_imp po_none fun σ H Q q => by
  obtain ⟨F, L, A, en, S, q⟩ := q
  exact q F H (Pur.refl S.sF)
theorem OE.some (h : VE X W g e) : OE X W (oS g) (some e) := po_imp (po_some h) fun σ H Q q => by
  obtain ⟨F, L, A, en, S, q⟩ := q
  refine ⟨F, L, A, en, S, ?_⟩
  unfold oS at q
  cases e1 : g en with
  | no =>
    rw [e1] at q
    exact q
  | ex x =>
    rw [e1] at q
    exact q
  | ok t =>
    rw [e1] at q
    dsimp only at q
    intro v F' H' B p r _ _
    cases e2 : intR t with
    | none =>
      rw [e2] at q
      exact q.elim
    | some i =>
      rw [e2] at q
      have he := intR_ok e2
      subst he
      obtain ⟨rfl, _⟩ := r.flat
      exact ⟨i, rfl, q F' H' p⟩
abbrev rSlice (K : PySem.W.Frag) : V → Option Int → Option Int → Hp → VK → Prop := fun x lo hi H Q => rSlL K x lo hi H Q ∨ rSlS x lo hi H Q
theorem VE.slice (h : VE X W g e) (hl : OE X W gl lo) (hh : OE X W gh hi) : VE X W (vSl g gl gh) (.Subscript e (.Slice lo hi none p2) pos) := pe_imp (pe_slice (r := rSlice X.K) (sl_list.or sl_str) h hl hh) fun σ H Q q => by
  obtain ⟨F, L, A, en, S, q⟩ := q
  refine ⟨F, L, A, en, S, ?_⟩
  unfold vSl at q
  cases e1 : g en with
  | no =>
    rw [e1] at q
    exact q
  | ex x =>
    rw [e1] at q
    exact q
  | ok t =>
    rw [e1] at q
    intro v F1 H1 B1 p1 r1 b1 c1
    have S1 := S.pur p1
    refine ⟨F1, L, A, en, S1, ?_⟩
    dsimp only at q
    cases e2 : gl en with
    | no =>
      rw [e2] at q
      exact q
    | ex x =>
      rw [e2] at q
      exact fun cls d F2 H2 p2 er => q cls d F2 H2 (p1.trans p2) er
    | ok l =>
      rw [e2] at q
      intro F2 H2 p2
      have S2 := S1.pur p2
      refine ⟨F2, L, A, en, S2, ?_⟩
      dsimp only at q
      cases e3 : gh en with
      | no =>
        rw [e3] at q
        exact q
      | ex x =>
        rw [e3] at q
        exact fun cls d F3 H3 p3 er => q cls d F3 H3 ((p1.trans p2).trans p3) er
      | ok u =>
        rw [e3] at q
        intro F3 H3 p3
        have S3 := S2.pur p3
        have pt := (p1.trans p2).trans p3
        have p23 := p2.trans p3
        have d1 := Rep.dom _ _ _ r1
        have r1' := Rep.keep (Le.of p23.f) (Le.of (vw_mono p23.h)) t v B1 (fun a z => Same.eq p23.h (d1 a z)) r1
        have c3 : ∀ z, B1 z → F3 z = none := fun z w => by
          by_cases h : F3 z = none
          · exact h
          · exact absurd (p23.g z (c1 z w) h) (d1 z w)
        dsimp only at q
        cases e4 : sliceT t l u with
        | none =>
          rw [e4] at q
          exact q.elim
        | some r =>
          rw [e4] at q
          have fin : ∀ (kd : Kd) (ts : List T), kids t = some (kd, ts) → (∀ p vs, Ob (gx X W) H3 p kd vs → SqL X.K H3 p vs) → r = .n .ow .lst (cutT ts l u) → rSlice X.K v l u H3 Q := fun kd ts ek hk er => by
            subst er
            obtain ⟨p, vs, B, rfl, o, i, rr⟩ := Rep.kids r1' ek S3.sF (vw_same S3.sL)
            refine .inl ⟨p, vs, rfl, hk p vs o, fun nn hn => ?_⟩
            obtain ⟨B2, z1, z2⟩ := Reps.cut l u rr
            obtain ⟨h1, h2⟩ := Rep.node (k := .lst) (o := .lst (cutV vs l u)) z1 hn (vw_same S3.sL) S3.sF upd_same
            refine q _ F3 _ _ (pt.trans (Pur.new S3.sF h2)) (Rep.keep (Le.refl _) (Le.of (vw_mono h2)) _ _ _ (fun _ _ => rfl) h1) (fun a z => ?_) (fun a z => ?_)
            · rcases z with z | z
              · obtain rfl : a = nn := z
                exact pt.h.free hn
              · exact b1 a (i a (z2 a z))
            · rcases z with z | z
              · obtain rfl : a = nn := z
                exact S3.sF.free hn
              · exact c3 a (i a (z2 a z))
          unfold sliceT at e4
          split at e4
          · split at e4
            · rename_i hl
              cases e4
              obtain ⟨rfl, _⟩ := r1.flat
              exact .inr ⟨_, rfl, line_le hl, q _ F3 H3 fe pt Rep.of_flat (fun _ z => z.elim) fun _ z => z.elim⟩
            · cases e4
          · split at e4
            · rename_i ts ek
              cases e4
              exact fin _ ts ek (fun p vs o => SqL.of o) rfl
            · rename_i ts ek
              cases e4
              exact fin _ ts ek (fun p vs o => o) rfl
            · cases e4
end
/-! ### loops over texts too -/
def sgn (z : Str) : List T := z.cps.toList.map fun c => T.s ⟨#[c]⟩
def txtR : T → Option Str
  | .f (.a (.str z)) => some z
  | _ => none
theorem txtR_ok {t : T} {z : Str} (h : txtR t = some z) : t = .f (.a (.str z)) := by
  unfold txtR at h
  split at h
  · cases h
    rfl
  · cases h
def sqA : Rv → Ri
  | .ok t => (match txtR t with
    | some z => .ok (sgn z)
    | none => (match seqT t with
      | some (_, us) => .ok us
      | none => .no))
  | .ex x => .ex x
  | .no => .no
def iSeqA (g : En → Rv) : En → Ri := fun en => sqA (g (hideO en))
theorem wkS {K : Gx} {F L : Hp} {z : Str} : Wk K F L (Its z) (sgn z) where
  go := fun i H hi _ _ => by
    have : i < z.cps.toList.length := by simpa [sgn] using hi
    show i < z.cps.size
    simpa using this
  yld := fun i H x H' _ _ y => by
    obtain ⟨rfl, c, hc, rfl⟩ := y
    refine ⟨Same.refl _, fun t ht => ⟨fe, ?_, fun _ z => z.elim⟩⟩
    have e : t = T.s ⟨#[c]⟩ := by
      unfold sgn at ht
      rw [List.getElem?_map] at ht
      have hc2 : z.cps.toList[i]? = some c := by simpa using hc
      rw [hc2] at ht
      exact (Option.some.inj ht).symm
    subst e
    exact Rep.of_flat
  stop := fun H _ _ => by
    show z.cps.size ≤ (sgn z).length
    unfold sgn
    simp
section
variable {X : Cx} {W : Wt} {iter tg : Expr} {gv : En → Rv}
theorem IE.seqA (h : VE X W gv iter) : IE X W (iSeqA gv) tg iter := by
  obtain ⟨wi, pi, hw⟩ := (IE.seq (tg := tg) h).ex
  refine ⟨_, pi_or pi (pi_str h), fun F L H A σ en R S q => ?_⟩
  unfold iSeqA sqA at q
  have base : (match iSeq gv en with
    | .ok ts => ∀ J F' H', Pur F H F' H' → Wk (gx X W) F' L J ts → R J H'
    | .ex x => ∀ cls d F' H', Pur F H F' H' → ExRep (gx X W) F' cls d x → W.w cls d σ H'
    | .no => False) → wi σ H R := hw F L H A σ en R S
  unfold iSeq at base
  cases e1 : gv (hideO en) with
  | no =>
    rw [e1] at q
    exact q.elim
  | ex x =>
    rw [e1] at q base
    exact .inl (base q)
  | ok t =>
    rw [e1] at q base
    dsimp only at q base
    cases e2 : txtR t with
    | none =>
      rw [e2] at q
      dsimp only at q
      refine .inl (base ?_)
      cases e3 : seqT t with
      | none =>
        rw [e3] at q
        exact q
      | some pr =>
        rw [e3] at q
        exact q
    | some z =>
      rw [e2] at q
      have et := txtR_ok e2
      subst et
      refine .inr ⟨F, L, fe, hideO en, S.hide, ?_⟩
      rw [e1]
      intro v F' H' B p r _ _
      obtain ⟨rfl, _⟩ := r.flat
      exact ⟨z, rfl, q _ F' H' p wkS⟩
end
/-! ### ranges with a step -/
def rng3 : List T → Option (List T)
  | [.f (.a (.int i)), .f (.a (.int j)), .f (.a (.int c))] => if (-(2 ^ 62) ≤ i ∧ i < 2 ^ 62) ∧ (-(2 ^ 62) ≤ j ∧ j < 2 ^ 62) ∧ 0 < c ∧ c < 2 ^ 31 then some ((List.range (((j - i + c - 1) / c).toNat)).map fun k : Nat => T.i (i + (k : Int) * c)) else none
  | _ => none
/-! ### lists of ints, texts, bools -/
def intsT : List T → Option (List Int)
  | [] => some []
  | .f (.a (.int i)) :: ts => (intsT ts).map (i :: ·)
  | _ => none
def strsT : List T → Option (List Str)
  | [] => some []
  | .f (.a (.str i)) :: ts => (strsT ts).map (i :: ·)
  | _ => none
def blsT : List T → Option (List Bool)
  | [] => some []
  | .f (.a (.bl i)) :: ts => (blsT ts).map (i :: ·)
  | _ => none
theorem intsT_ok {F L H : Hp} : ∀ {ts : List T} {vs : List V} {A : Fp} {ns : List Int}, Reps K F L H ts vs A → intsT ts = some ns → vs = ns.map V.int
  | [], vs, A, ns, h, e => by
    cases e
    unfold Reps at h
    exact h.1
  | t :: ts, vs, A, ns, h, e => by
    unfold intsT at e
    split at e
    · rename_i heq
      cases heq
    · rename_i i us heq
      obtain ⟨h1, h2⟩ := List.cons.inj heq
      subst h1 h2
      unfold Reps at h
      obtain ⟨v, ws, A1, A2, rfl, _, _, d, e2⟩ := h
      cases q : intsT ts with
      | none =>
        rw [q] at e
        cases e
      | some ms =>
        rw [q] at e
        cases e
        obtain ⟨rfl, _⟩ := d.flat
        rw [intsT_ok e2 q]
        rfl
    · cases e
theorem strsT_ok {F L H : Hp} : ∀ {ts : List T} {vs : List V} {A : Fp} {ns : List Str}, Reps K F L H ts vs A → strsT ts = some ns → vs = ns.map V.str
  | [], vs, A, ns, h, e => by
    cases e
    unfold Reps at h
    exact h.1
  | t :: ts, vs, A, ns, h, e => by
    unfold strsT at e
    split at e
    · rename_i heq
      cases heq
    · rename_i i us heq
      obtain ⟨h1, h2⟩ := List.cons.inj heq
      subst h1 h2
      unfold Reps at h
      obtain ⟨v, ws, A1, A2, rfl, _, _, d, e2⟩ := h
      cases q : strsT ts with
      | none =>
        rw [q] at e
        cases e
      | some ms =>
        rw [q] at e
        cases e
        obtain ⟨rfl, _⟩ := d.flat
        rw [strsT_ok e2 q]
        rfl
    · cases e
theorem blsT_ok {F L H : Hp} : ∀ {ts : List T} {vs : List V} {A : Fp} {ns : List Bool}, Reps K F L H ts vs A → blsT ts = some ns → vs = ns.map V.bl
  | [], vs, A, ns, h, e => by
    cases e
    unfold Reps at h
    exact h.1
  | t :: ts, vs, A, ns, h, e => by
    unfold blsT at e
    split at e
    · rename_i heq
      cases heq
    · rename_i i us heq
      obtain ⟨h1, h2⟩ := List.cons.inj heq
      subst h1 h2
      unfold Reps at h
      obtain ⟨v, ws, A1, A2, rfl, _, _, d, e2⟩ := h
      cases q : blsT ts with
      | none =>
        rw [q] at e
        cases e
      | some ms =>
        rw [q] at e
        cases e
        obtain ⟨rfl, _⟩ := d.flat
        rw [blsT_ok e2 q]
        rfl
    · cases e
/-- the parts of a list -/
def lstT (t : T) : Option (List T) := match kids t with
  | some (.lst, ts) => some ts
  | some (.scr, ts) => some ts
  | _ => none
theorem lstT_ok {F L H : Hp} {t : T} {x : V} {A : Fp} {ts : List T} (r : Rep K F L H t x A) (e : lstT t = some ts) (sF : Same F H) (sL : Same L H) : ∃ p vs B, x = .ref p ∧ SqL K.K H p vs ∧ Reps K F L H ts vs B ∧ ∀ q, B q → A q := by
  unfold lstT at e
  split at e
  · rename_i us ek
    cases e
    obtain ⟨p, vs, B, rfl, o, i, rr⟩ := Rep.kids r ek sF sL
    exact ⟨p, vs, B, rfl, SqL.of o, rr, i⟩
  · rename_i us ek
    cases e
    obtain ⟨p, vs, B, rfl, o, i, rr⟩ := Rep.kids r ek sF sL
    exact ⟨p, vs, B, rfl, o, rr, i⟩
  · cases e
def sumT (t : T) : Option T := ((lstT t).bind intsT).map fun ns => T.i ns.sum
def allT (t : T) : Option T := ((lstT t).bind blsT).map fun ns => T.b (ns.all id)
def anyT (t : T) : Option T := ((lstT t).bind blsT).map fun ns => T.b (ns.any id)
def maxI : List Int → Option Int
  | [] => none
  | n :: ns => match maxI ns with
    | none => some n
    | some m => some (if m ≤ n then n else m)
def minI : List Int → Option Int
  | [] => none
  | n :: ns => match minI ns with
    | none => some n
    | some m => some (if n ≤ m then n else m)
theorem maxI_ok : ∀ {ns : List Int} {m : Int}, maxI ns = some m → m ∈ ns ∧ ∀ y ∈ ns, y ≤ m
  | [], m, h => by cases h
  | n :: ns, m, h => by
    unfold maxI at h
    cases e : maxI ns with
    | none =>
      rw [e] at h
      cases h
      have en : ns = [] := by
        cases ns with
        | nil => rfl
        | cons a as =>
          unfold maxI at e
          split at e <;> cases e
      subst en
      exact ⟨List.mem_cons_self, fun y hy => by rw [List.mem_singleton.mp hy]; exact Int.le_refl _⟩
    | some k =>
      rw [e] at h
      obtain ⟨h1, h2⟩ := maxI_ok e
      dsimp only at h
      split at h
      · rename_i hk
        cases h
        refine ⟨List.mem_cons_self, fun y hy => ?_⟩
        rcases List.mem_cons.mp hy with rfl | hy
        · exact Int.le_refl _
        · exact Int.le_trans (h2 y hy) hk
      · cases h
        refine ⟨List.mem_cons_of_mem _ h1, fun y hy => ?_⟩
        rcases List.mem_cons.mp hy with rfl | hy
        · omega
        · exact h2 y hy
theorem minI_ok : ∀ {ns : List Int} {m : Int}, minI ns = some m → m ∈ ns ∧ ∀ y ∈ ns, m ≤ y
  | [], m, h => by cases h
  | n :: ns, m, h => by
    unfold minI at h
    cases e : minI ns with
    | none =>
      rw [e] at h
      cases h
      have en : ns = [] := by
        cases ns with
        | nil => rfl
        | cons a as =>
          unfold minI at e
          split at e <;> cases e
      subst en
      exact ⟨List.mem_cons_self, fun y hy => by rw [List.mem_singleton.mp hy]; exact Int.le_refl _⟩
    | some k =>
      rw [e] at h
      obtain ⟨h1, h2⟩ := minI_ok e
      dsimp only at h
      split at h
      · rename_i hk
        cases h
        refine ⟨List.mem_cons_self, fun y hy => ?_⟩
        rcases List.mem_cons.mp hy with rfl | hy
        · exact Int.le_refl _
        · exact Int.le_trans hk (h2 y hy)
      · cases h
        refine ⟨List.mem_cons_of_mem _ h1, fun y hy => ?_⟩
        rcases List.mem_cons.mp hy with rfl | hy
        · omega
        · exact h2 y hy
def maxlT (t : T) : Option T := (((lstT t).bind intsT).bind maxI).map T.i
def minlT (t : T) : Option T := (((lstT t).bind intsT).bind minI).map T.i
theorem o1_sum {X : Cx} {W : Wt} : Op1 (gx X W) (fun v H Q => rSum X.K [v] H Q) sumT := Op1.flat fun F L H x t1 t A1 sF sL r1 e => by
  unfold sumT at e
  cases e1 : lstT t1 with
  | none => rw [e1] at e; cases e
  | some ts =>
    rw [e1, Option.bind_some] at e
    cases e2 : intsT ts with
    | none => rw [e2] at e; cases e
    | some ns =>
      rw [e2] at e
      cases e
      obtain ⟨p, vs, B, rfl, o, r, _⟩ := lstT_ok r1 e1 sF sL
      exact ⟨_, rfl, fun Q q => ⟨p, ns, rfl, by rw [← intsT_ok r e2]; exact o, q⟩⟩
theorem o1_all {X : Cx} {W : Wt} : Op1 (gx X W) (fun v H Q => rAll X.K [v] H Q) allT := Op1.flat fun F L H x t1 t A1 sF sL r1 e => by
  unfold allT at e
  cases e1 : lstT t1 with
  | none => rw [e1] at e; cases e
  | some ts =>
    rw [e1, Option.bind_some] at e
    cases e2 : blsT ts with
    | none => rw [e2] at e; cases e
    | some ns =>
      rw [e2] at e
      cases e
      obtain ⟨p, vs, B, rfl, o, r, _⟩ := lstT_ok r1 e1 sF sL
      exact ⟨_, rfl, fun Q q => ⟨p, ns, rfl, by rw [← blsT_ok r e2]; exact o, q⟩⟩
theorem o1_any {X : Cx} {W : Wt} : Op1 (gx X W) (fun v H Q => rAny X.K [v] H Q) anyT := Op1.flat fun F L H x t1 t A1 sF sL r1 e => by
  unfold anyT at e
  cases e1 : lstT t1 with
  | none => rw [e1] at e; cases e
  | some ts =>
    rw [e1, Option.bind_some] at e
    cases e2 : blsT ts with
    | none => rw [e2] at e; cases e
    | some ns =>
      rw [e2] at e
      cases e
      obtain ⟨p, vs, B, rfl, o, r, _⟩ := lstT_ok r1 e1 sF sL
      exact ⟨_, rfl, fun Q q => ⟨p, ns, rfl, by rw [← blsT_ok r e2]; exact o, q⟩⟩
theorem o1_maxl {X : Cx} {W : Wt} : Op1 (gx X W) (fun v H Q => rMax X.K [v] H Q) maxlT := Op1.flat fun F L H x t1 t A1 sF sL r1 e => by
  unfold maxlT at e
  cases e1 : lstT t1 with
  | none => rw [e1] at e; cases e
  | some ts =>
    rw [e1, Option.bind_some] at e
    cases e2 : intsT ts with
    | none => rw [e2] at e; cases e
    | some ns =>
      rw [e2, Option.bind_some] at e
      cases e3 : maxI ns with
      | none => rw [e3] at e; cases e
      | some m =>
        rw [e3] at e
        cases e
        obtain ⟨p, vs, B, rfl, o, r, _⟩ := lstT_ok r1 e1 sF sL
        obtain ⟨m1, m2⟩ := maxI_ok e3
        refine ⟨_, rfl, fun Q q => ⟨p, ns, rfl, by rw [← intsT_ok r e2]; exact o, List.length_pos_of_mem m1, fun m' k1 k2 => ?_⟩⟩
        have em : m' = m := Int.le_antisymm (m2 m' k1) (k2 m m1)
        rw [em]
        exact q
theorem o1_minl {X : Cx} {W : Wt} : Op1 (gx X W) (fun v H Q => rMin X.K [v] H Q) minlT := Op1.flat fun F L H x t1 t A1 sF sL r1 e => by
  unfold minlT at e
  cases e1 : lstT t1 with
  | none => rw [e1] at e; cases e
  | some ts =>
    rw [e1, Option.bind_some] at e
    cases e2 : intsT ts with
    | none => rw [e2] at e; cases e
    | some ns =>
      rw [e2, Option.bind_some] at e
      cases e3 : minI ns with
      | none => rw [e3] at e; cases e
      | some m =>
        rw [e3] at e
        cases e
        obtain ⟨p, vs, B, rfl, o, r, _⟩ := lstT_ok r1 e1 sF sL
        obtain ⟨m1, m2⟩ := minI_ok e3
        refine ⟨_, rfl, fun Q q => ⟨p, ns, rfl, by rw [← intsT_ok r e2]; exact o, List.length_pos_of_mem m1, fun m' k1 k2 => ?_⟩⟩
        have em : m' = m := Int.le_antisymm (k2 m m1) (m2 m' k1)
        rw [em]
        exact q
/-! ### list(x), abs, str, int, divmod -/
def listT (t : T) : Option T := match kids t with
  | some (.lst, ts) => some (.n .ow .lst ts)
  | some (.scr, ts) => some (.n .ow .lst ts)
  | some (.tup, ts) => some (.n .ow .lst ts)
  | _ => none
theorem o1_list {X : Cx} {W : Wt} : Op1 (gx X W) (fun v H Q => (fun xs H Q => ∃ p ys, xs = [.ref p] ∧ (SqL X.K H p ys ∨ SqT X.K H p ys) ∧ ∀ l, H l = none → Q (.ref l) (upd H l (.lst ys)) : List V → Hp → VK → Prop) [v] H Q) listT := by
  intro F L H x t1 t A1 Q sF sL r1 e q
  have fin : ∀ (kd : Kd) (ts : List T), kids t1 = some (kd, ts) → (∀ p vs, Ob (gx X W) H p kd vs → SqL X.K H p vs ∨ SqT X.K H p vs) → t = .n .ow .lst ts → ∃ p ys, [x] = [.ref p] ∧ (SqL X.K H p ys ∨ SqT X.K H p ys) ∧ ∀ l, H l = none → Q (.ref l) (upd H l (.lst ys)) := fun kd ts ek hk et => by
    subst et
    obtain ⟨p, vs, B, rfl, o, i, rr⟩ := Rep.kids r1 ek sF sL
    refine ⟨p, vs, rfl, hk p vs o, fun l hn => ?_⟩
    obtain ⟨h1, h2⟩ := Rep.node (k := .lst) (o := .lst vs) rr hn sL sF upd_same
    refine q _ _ _ h2 h1 fun a z => ?_
    rcases z with z | z
    · obtain rfl : a = l := z
      exact .inr hn
    · exact .inl (i a z)
  unfold listT at e
  split at e
  · rename_i ts ek
    exact fin _ ts ek (fun p vs o => .inl (SqL.of o)) (Option.some.inj e).symm
  · rename_i ts ek
    exact fin _ ts ek (fun p vs o => .inl o) (Option.some.inj e).symm
  · rename_i ts ek
    exact fin _ ts ek (fun p vs o => .inr o) (Option.some.inj e).symm
  · cases e
def absT : T → Option T
  | .f (.a (.int i)) => some (.i (if i < 0 then -i else i))
  | _ => none
theorem o1_abs : Op1 K (fun v H Q => (fun xs H Q => ∃ i, xs = [.int i] ∧ Q (.int (if i < 0 then -i else i)) H : List V → Hp → VK → Prop) [v] H Q) absT := Op1.flat fun F L H x t1 t A1 _ _ r1 e => by
  unfold absT at e
  split at e
  · cases e
    obtain ⟨rfl, _⟩ := r1.flat
    exact ⟨_, rfl, fun Q q => ⟨_, rfl, q⟩⟩
  · cases e
abbrev rStr : List V → Hp → VK → Prop := fun xs H Q => (∃ i, xs = [.int i] ∧ i.natAbs.log2 < 1920 ∧ Q (.str (toString i)) H) ∨ ∃ a, xs = [.str a] ∧ Q (.str a) H
theorem CallR.or {X : Cx} {f : Value} {r r' : List V → Hp → VK → Prop} (h : CallR X f r) (h' : CallR X f r') : CallR X f (fun xs H Q => r xs H Q ∨ r' xs H Q) := fun pins s σ H xs us Q I rv q => q.elim (h pins s σ H xs us Q I rv) (h' pins s σ H xs us Q I rv)
def strT : T → Option T
  | .f (.a (.int i)) => if i.natAbs.log2 < 1920 then some (.s (toString i)) else none
  | .f (.a (.str x)) => some (.s x)
  | _ => none
theorem o1_str : Op1 K (fun v H Q => rStr [v] H Q) strT := Op1.flat fun F L H x t1 t A1 _ _ r1 e => by
  unfold strT at e
  split at e
  · split at e
    · rename_i hl
      cases e
      obtain ⟨rfl, _⟩ := r1.flat
      exact ⟨_, rfl, fun Q q => .inl ⟨_, rfl, hl, q⟩⟩
    · cases e
  · cases e
    obtain ⟨rfl, _⟩ := r1.flat
    exact ⟨_, rfl, fun Q q => .inr ⟨_, rfl, q⟩⟩
  · cases e
abbrev rInt : List V → Hp → VK → Prop := fun xs H Q => ((∃ i, xs = [.int i] ∧ Q (.int i) H) ∨ ∃ k, xs = [.bl k] ∧ Q (.int (if k then 1 else 0)) H) ∨ ∃ a n, xs = [.str a] ∧ PySem.intText? a = some n ∧ a.length ≤ 640 ∧ Q (.int n) H
def toIntT : T → Option T
  | .f (.a (.int i)) => some (.i i)
  | .f (.a (.bl k)) => some (.i (if k then 1 else 0))
  | .f (.a (.str a)) => if a.length ≤ 640 then (PySem.intText? a).map T.i else none
  | _ => none
theorem o1_int : Op1 K (fun v H Q => rInt [v] H Q) toIntT := Op1.flat fun F L H x t1 t A1 _ _ r1 e => by
  unfold toIntT at e
  split at e
  · cases e
    obtain ⟨rfl, _⟩ := r1.flat
    exact ⟨_, rfl, fun Q q => .inl (.inl ⟨_, rfl, q⟩)⟩
  · cases e
    obtain ⟨rfl, _⟩ := r1.flat
    exact ⟨_, rfl, fun Q q => .inl (.inr ⟨_, rfl, q⟩)⟩
  · rename_i a
    split at e
    · rename_i hl
      cases e2 : PySem.intText? a with
      | none =>
        rw [e2] at e
        cases e
      | some n =>
        rw [e2] at e
        cases e
        obtain ⟨rfl, _⟩ := r1.flat
        exact ⟨_, rfl, fun Q q => .inr ⟨_, n, rfl, e2, hl, q⟩⟩
    · cases e
  · cases e
def divmodT : T → T → Option T
  | .f (.a (.int i)), .f (.a (.int j)) => if 0 < j ∧ j.natAbs.log2 < 9000 then some (.n .ow .tup [T.i (i / j), T.i (i % j)]) else none
  | _, _ => none
theorem o2_divmod : Op2 K (fun v u H Q => (fun xs H Q => ∃ i j, xs = [.int i, .int j] ∧ CDivP i j ∧ ∀ p, H p = none → Q (.ref p) (upd H p (.tup [.int (i / j), .int (i % j)])) : List V → Hp → VK → Prop) [v, u] H Q) divmodT := by
  intro F L H x y t1 t2 t A1 A2 Q sF sL r1 r2 dj e q
  unfold divmodT at e
  split at e
  · rename_i i j
    split at e
    · rename_i h
      cases e
      obtain ⟨rfl, _⟩ := r1.flat
      obtain ⟨rfl, _⟩ := r2.flat
      refine ⟨i, j, rfl, ⟨h.1, noPy ⟨by omega, h.2⟩⟩, fun p hn => ?_⟩
      have rr : Reps K F L H [T.i (i / j), T.i (i % j)] [.int (i / j), .int (i % j)] fe := by
        unfold Reps
        refine ⟨_, _, fe, fe, rfl, fu_e.symm, e_dj, Rep.of_flat, ?_⟩
        unfold Reps
        exact ⟨_, _, fe, fe, rfl, fu_e.symm, e_dj, Rep.of_flat, Reps.nil⟩
      obtain ⟨h1, h2⟩ := Rep.node (k := .tup) (o := .tup [.int (i / j), .int (i % j)]) rr hn sL sF upd_same
      refine q _ _ _ h2 h1 fun a z => ?_
      rcases z with z | z
      · obtain rfl : a = p := z
        exact .inr (.inr hn)
      · exact z.elim
    · cases e
  · cases e
section
variable {X : Cx} {W : Wt} {e a b c o : Expr} {es : List Expr} {pos pos' np p apos p2 : Pos} {g g1 g2 g3 gi gv : En → Rv} {gs : En → Rvs} {k l n : Nat} {x : Str}
theorem boot_max' : bootBuiltins "max" = some (.builtin "max") := by decide +kernel
theorem boot_min' : bootBuiltins "min" = some (.builtin "min") := by decide +kernel
theorem boot_sum' : bootBuiltins "sum" = some (.builtin "sum") := by decide +kernel
theorem boot_all' : bootBuiltins "all" = some (.builtin "all") := by decide +kernel
theorem boot_any' : bootBuiltins "any" = some (.builtin "any") := by decide +kernel
theorem boot_abs' : bootBuiltins "abs" = some (.builtin "abs") := by decide +kernel
theorem boot_divmod' : bootBuiltins "divmod" = some (.builtin "divmod") := by decide +kernel
theorem boot_list' : bootBuiltins "list" = some (.type "list") := by decide +kernel
theorem boot_str' : bootBuiltins "str" = some (.type "str") := by decide +kernel
theorem boot_int' : bootBuiltins "int" = some (.type "int") := by decide +kernel
theorem call_strA : CallR X (.type "str") rStr := call_str_int.or SkE.call_str_str
theorem call_intA : CallR X (.type "int") rInt := call_int1.or call_int_str
/-! ### methods of texts -/
def sOnly (g : En → Rv) : En → Rv := fun en => match g en with
  | .ok t => (match t with
    | .f (.a (.str _)) => .ok t
    | _ => .no)
  | r => r
theorem sOnly_ok {W : WX} {σ : L2.St} {H : Hp} {Q : VK} (q : tV K (sOnly g) W σ H Q) : tV K g W σ H fun x H1 => (∃ a, x = .str a) ∧ Q x H1 := by
  obtain ⟨F, L, A, en, S, q⟩ := q
  refine ⟨F, L, A, en, S, ?_⟩
  unfold sOnly at q
  cases e1 : g en with
  | no =>
    rw [e1] at q
    exact q
  | ex x =>
    rw [e1] at q
    exact q
  | ok t =>
    rw [e1] at q
    dsimp only at q
    split at q
    · rename_i z hq
      split at hq
      · cases hq
        intro v F' H' B p r b c
        obtain ⟨rfl, _⟩ := r.flat
        exact ⟨⟨_, rfl⟩, q _ F' H' B p r b c⟩
      · cases hq
    · rename_i hq
      split at hq
      · cases hq
      · cases hq
    · exact q.elim
theorem VE.m1 {id : String} {name : Str} {r : V → List V → Hp → VK → Prop} {φ : T → T → Option T} (slot : PySem.Slot "str" name id) (ty : typeOf (.builtin id) = pure (.type "method_descriptor")) (rule : MtR X id r) (hφ : Op2 (gx X W) (fun v u H Q => r v [u] H Q) φ) (h : VE X W g1 o) (h2 : VE X W g2 e)
    (hs : starEach [e] X.env = [(false, eval e X.env)] := by rfl) (hbase : attributeBase o name X.env (eval o X.env) = eval o X.env := by rfl) (hline : (apos.endLine == pos.line) = true := by rfl) : VE X W (v2 φ (sOnly g1) g2) (.Call (.Attribute o name apos) [e] [] pos) :=
  pe_imp (pe_m1 slot ty rule h h2 hs hbase hline) fun σ H Q q => sOnly_ok (v2_ok hφ q)
def zfillT : T → T → Option T
  | .f (.a (.str x)), .f (.a (.int i)) => if PadOk i = true then some (.s (Txt.zfill x i)) else none
  | _, _ => none
theorem o2_zfill : Op2 K (fun v u H Q => (fun x xs H Q => ∃ (a : Str) (i : Int), x = .str a ∧ xs = [.int i] ∧ PadOk i = true ∧ Q (.str (Txt.zfill a i)) H : V → List V → Hp → VK → Prop) v [u] H Q) zfillT := Op2.flat fun F L H x y t1 t2 t A1 A2 _ _ r1 r2 e => by
  unfold zfillT at e
  split at e
  · split at e
    · rename_i h
      cases e
      obtain ⟨rfl, _⟩ := r1.flat
      obtain ⟨rfl, _⟩ := r2.flat
      exact ⟨_, rfl, fun Q q => ⟨_, _, rfl, rfl, h, q⟩⟩
    · cases e
  · cases e
def joinT (t u : T) : Option T := match t with
  | .f (.a (.str a)) => (match (lstT u).bind strsT with
    | some ys => if (ys.map (·.length)).sum + ys.length * a.length ≤ LINE then some (.s (Txt.join a ys)) else none
    | none => none)
  | _ => none
theorem o2_join {X : Cx} {W : Wt} : Op2 (gx X W) (fun v u H Q => (fun x xs H Q => ∃ a p, ∃ ys : List Str, x = .str a ∧ xs = [.ref p] ∧ (SqL X.K H p (ys.map V.str) ∨ SqT X.K H p (ys.map V.str)) ∧ (ys.map (·.length)).sum + ys.length * a.length ≤ 16777216 ∧ Q (.str (Txt.join a ys)) H : V → List V → Hp → VK → Prop) v [u] H Q) joinT := Op2.flat fun F L H x y t1 t2 t A1 A2 sF sL r1 r2 e => by
  unfold joinT at e
  split at e
  · cases e1 : lstT t2 with
    | none => rw [e1] at e; cases e
    | some ts =>
      rw [e1, Option.bind_some] at e
      cases e2 : strsT ts with
      | none => rw [e2] at e; cases e
      | some ys =>
        rw [e2] at e
        dsimp only at e
        split at e
        · rename_i hl
          cases e
          obtain ⟨rfl, _⟩ := r1.flat
          obtain ⟨p, vs, B, rfl, o, r, _⟩ := lstT_ok r2 e1 sF sL
          exact ⟨_, rfl, fun Q q => ⟨_, p, ys, rfl, rfl, .inl (by rw [← strsT_ok r e2]; exact o), hl, q⟩⟩
        · cases e
  · cases e
/-! ### chains of two comparisons -/
def blR : T → Option Bool
  | .f (.a (.bl b)) => some b
  | _ => none
theorem blR_ok {t : T} {b : Bool} (h : blR t = some b) : t = .f (.a (.bl b)) := by
  unfold blR at h
  split at h
  · cases h
    rfl
  · cases h
def ch2 (φ ψ : T → T → Option T) (g1 g2 g3 : En → Rv) : En → Rv := fun en => match g1 en with
  | .ok t1 => (match g2 en with
    | .ok t2 => (match φ t1 t2 with
      | some t => (match blR t with
        | some true => (match g3 en with
          | .ok t3 => (match ψ t2 t3 with
            | some t => .ok t
            | none => .no)
          | .ex x => .ex x
          | .no => .no)
        | some false => .ok (.b false)
        | none => .no)
      | none => .no)
    | r => r)
  | r => r
end
end DT
/-! Data trees, part 16: chains of comparisons, comprehensions. -/
namespace DT
open PySem L2
variable {K : Gx}
section
variable {X : Cx} {W : Wt} {a b c : Expr} {pos : Pos} {g1 g2 g3 : En → Rv}
theorem VE.chain {op op' : CmpOp} {r r' : R2} {φ ψ : T → T → Option T} (ho : OpR X (compareOp op) r) (hφ : Op2 (gx X W) r φ) (ho' : OpR X (compareOp op') r') (hψ : Op2 (gx X W) r' ψ) (ha : VE X W g1 a) (hb : VE X W g2 b) (hc : VE X W g3 c)
    (hm : lastMarks [op, op'] [b, c] = false := by with_unfolding_all rfl) : VE X W (ch2 φ ψ g1 g2 g3) (.Compare a [op, op'] [b, c] pos) := pe_imp (pe_chain ho ho' ha hb hc hm) fun σ H Q q => by
  obtain ⟨F, L, A, en, S, q⟩ := q
  refine ⟨F, L, A, en, S, ?_⟩
  unfold ch2 at q
  cases e1 : g1 en with
  | no =>
    rw [e1] at q
    exact q
  | ex x =>
    rw [e1] at q
    exact q
  | ok t1 =>
    rw [e1] at q
    intro v1 F1 H1 B1 p1 r1 b1 c1
    refine ⟨F1, L, A, en, S.pur p1, ?_⟩
    dsimp only at q
    cases e2 : g2 en with
    | no =>
      rw [e2] at q
      exact q
    | ex x =>
      rw [e2] at q
      exact fun cls d F2 H2 p2 er => q cls d F2 H2 (p1.trans p2) er
    | ok t2 =>
      rw [e2] at q
      intro v2 F2 H2 B2 p2 r2 b2 c2
      dsimp only at q
      have S2 := (S.pur p1).pur p2
      have d1 := Rep.dom _ _ _ r1
      have d2 := Rep.dom _ _ _ r2
      have r1' := Rep.keep (Le.of p2.f) (Le.of (vw_mono p2.h)) t1 v1 B1 (fun a z => Same.eq p2.h (d1 a z)) r1
      have p12 := p1.trans p2
      cases e3 : φ t1 t2 with
      | none =>
        rw [e3] at q
        exact q.elim
      | some t =>
        rw [e3] at q
        refine hφ F2 (vw L H2 A) H2 v1 v2 t1 t2 t B1 B2 _ S2.sF (vw_same S2.sL) r1' r2 (fun a z y => d1 a z (b2 a y)) e3 fun v H3 B sm rp hb => ?_
        dsimp only at q
        cases eb : blR t with
        | none =>
          rw [eb] at q
          exact q.elim
        | some kb =>
        rw [eb] at q
        have et := blR_ok eb
        subst et
        cases kb with
        | true =>
          obtain ⟨rfl, _⟩ := rp.flat
          refine ⟨true, rfl, ?_⟩
          rw [if_pos rfl]
          have p3 : Pur F2 H2 F2 H3 := Pur.new S2.sF sm
          refine ⟨F2, L, A, en, S2.pur p3, ?_⟩
          cases e4 : g3 en with
          | no =>
            rw [e4] at q
            exact q
          | ex x =>
            rw [e4] at q
            exact fun cls d F4 H4 p4 er => q cls d F4 H4 ((p12.trans p3).trans p4) er
          | ok t3 =>
            rw [e4] at q
            intro v3 F4 H4 B4 p4 r4 b4 c4
            dsimp only at q
            cases e5 : ψ t2 t3 with
            | none =>
              rw [e5] at q
              exact q.elim
            | some t =>
              rw [e5] at q
              have S4 := (S2.pur p3).pur p4
              have p34 := p3.trans p4
              have r2' := Rep.keep (Le.of p34.f) (Le.of (vw_mono p34.h)) t2 v2 B2 (fun a z => Same.eq p34.h (d2 a z)) r2
              refine hψ F4 (vw L H4 A) H4 v2 v3 t2 t3 t B2 B4 Q S4.sF (vw_same S4.sL) r2' r4 (fun a z y => d2 a z (p3.h.free (b4 a y))) e5 fun v H' B' sm rp hb => ?_
              have pt := p12.trans p34
              refine q v F4 H' B' (pt.trans (Pur.new S4.sF sm)) (Rep.keep (Le.refl _) (Le.of (vw_mono sm)) t v B' (fun _ _ => rfl) rp) (fun a z => ?_) (fun a z => ?_)
              · rcases hb a z with y | y | y
                · exact p1.h.free (b2 a y)
                · exact p12.h.free (p3.h.free (b4 a y))
                · exact pt.h.free y
              · rcases hb a z with y | y | y
                · by_cases w : F4 a = none
                  · exact w
                  · exact absurd (p34.g a (c2 a y) w) (d2 a y)
                · exact c4 a y
                · exact S4.sF.free y
        | false =>
          obtain ⟨rfl, _⟩ := rp.flat
          refine ⟨false, rfl, ?_⟩
          rw [if_neg Bool.false_ne_true]
          exact q _ F2 H3 fe (p12.trans (Pur.new S2.sF sm)) Rep.of_flat (fun _ z => z.elim) fun _ z => z.elim
end

/-! ### comprehensions -/
def wip (en : En) : List Nat → En
  | [] => en
  | v :: vs => (wip en vs).set v none
theorem wipe_get {σ : L2.St} {i : Nat} : ∀ vs : List Nat, (L2.wipe σ vs)[i]? = if i ∈ vs then σ[i]?.map (fun _ => none) else σ[i]?
  | [] => by simp [L2.wipe]
  | v :: vs => by
    unfold L2.wipe
    by_cases h : v = i
    · subst h
      rw [if_pos List.mem_cons_self]
      by_cases hl : v < (L2.wipe σ vs).length
      · rw [List.getElem?_set_self hl]
        have hl' : v < σ.length := by rw [L2.wipe_length] at hl; exact hl
        simp [hl']
      · rw [List.getElem?_eq_none (by simpa using hl)]
        have hl' : ¬ v < σ.length := by rw [L2.wipe_length] at hl; exact hl
        rw [List.getElem?_eq_none (by omega)]
        rfl
    · rw [List.getElem?_set_ne h, wipe_get vs]
      have : (i ∈ v :: vs) ↔ i ∈ vs := by
        rw [List.mem_cons]
        exact ⟨fun z => z.elim (fun e => absurd e.symm h) id, .inr⟩
      simp only [this]
theorem wipe_wr {σ σ' : L2.St} {ws vs : List Nat} (h : Wr ws (L2.wipe σ vs) σ') (hv : ∀ i ∈ ws, i ∈ vs) : L2.wipe σ' vs = L2.wipe σ vs := List.ext_getElem? fun i => by
  have hl : σ'.length = σ.length := by rw [h.1, L2.wipe_length]
  rw [wipe_get, wipe_get]
  by_cases hi : i ∈ vs
  · rw [if_pos hi, if_pos hi]
    by_cases hk : i < σ.length
    · have hk' : i < σ'.length := by omega
      simp [hk, hk']
    · rw [List.getElem?_eq_none (by omega), List.getElem?_eq_none (by omega)]
  · rw [if_neg hi, if_neg hi, h.2 i fun z => hi (hv i z), wipe_get, if_neg hi]
theorem Stk.wip {F L H : Hp} {σ : L2.St} {en : En} {A : Fp} (S : Stk K F L H σ en A) : ∀ vs : List Nat, ∃ B, Stk K F L H (L2.wipe σ vs) (DT.wip en vs) B ∧ ∀ p, B p → A p
  | [] => ⟨A, S, fun _ z => z⟩
  | v :: vs => by
    obtain ⟨B, h1, h2⟩ := Stk.wip S vs
    obtain ⟨C, h3, h4⟩ := h1.sl.drop (i := v) none
    exact ⟨C, ⟨h3, S.sF, S.sL, fun p z => S.nF p (h2 p (h4 p z)), fun p z => S.nL p (h2 p (h4 p z))⟩, fun p z => h2 p (h4 p z)⟩
def lcS (vs : List Nat) (b : T → En → Option En) (p : En → Rb) (g : En → Rv) : List T → En → Option (List T)
  | [], _ => some []
  | t :: ts, en => match b t (wip en vs) with
    | none => none
    | some e1 => (match p e1 with
      | .ok true => (match g e1 with
        | .ok u => if noLk u = true then (lcS vs b p g ts en).map (u :: ·) else none
        | _ => none)
      | .ok false => lcS vs b p g ts en
      | _ => none)
def vLc (gi : En → Ri) (vs : List Nat) (b : T → En → Option En) (p : En → Rb) (g : En → Rv) : En → Rv := fun en => match gi en with
  | .ok ts => (match lcS vs b p g ts en with
    | some us => if us.length ≤ LINE then .ok (.n .ow .lst us) else .no
    | none => .no)
  | .ex x => .ex x
  | .no => .no
theorem noLks_app : ∀ {ts us : List T}, noLks ts = true → noLks us = true → noLks (ts ++ us) = true
  | [], us, _, h => h
  | t :: ts, us, h, h2 => by
    have h' : (noLk t && noLks ts) = true := h
    obtain ⟨a, b⟩ := and2 h'
    show (noLk t && noLks (ts ++ us)) = true
    rw [a, noLks_app b h2]
    rfl
theorem lc_walk {F L H : Hp} {A : Fp} {σ : L2.St} {en : En} {J : It} {items us : List T} {vs wg : List Nat} {b : T → En → Option En} {p : En → Rb} {g : En → Rv} {D : Addr} {Qd : Hp → Prop} (S : Stk K F L H σ en A) (wk : Wk K F L J items) (hv : ∀ i ∈ wg, i ∈ vs) (hD : H D = none)
    (hr : lcS vs b p g items en = some us) (hn : us.length ≤ LINE) (q : ∀ F' H' B, Pur F H F' H' → Rep K F' (vw L H' A) H' (.n .ow .lst us) (.ref D) B → (∀ p, B p → H p = none) → (∀ p, B p → F' p = none) → Qd H') :
    ∃ Wv : Nat → Nat → Hp → Prop, (∃ m, Wv 0 m (upd H D (.lst []))) ∧ ∀ i m H, Wv i m H → (J.stop i H ∧ Qd H) ∨ (J.go i H ∧ ∃ Nx : Hp → Prop, (∀ H', Nx H' → ∃ m', m' < m ∧ Wv (i + 1) m' H') ∧ ∀ x H', J.yld i H x H' → tG K b wg x (L2.wipe σ vs) H' fun σ2 H2 => L2.wipe σ2 vs = L2.wipe σ vs ∧ tT K p (fun _ _ _ _ => False) σ2 H2 fun b H3 =>
      if b = true then tV K g (fun _ _ _ _ => False) σ2 H3 fun y H4 => ∃ acc, H4 D = some (.lst acc) ∧ acc.length < sizeLine ∧ Nx (upd H4 D (.lst (acc ++ [y]))) else Nx H3) := by
  let P : Nat → Hp → Prop := fun i H' => ∃ (F' : Hp) (us' rest : List T) (acc : List V) (B' : Fp), H' D = some (.lst acc) ∧ F' D = none ∧ Same H H' ∧ Same F F' ∧ (∀ a, F a = none → F' a ≠ none → H a = none) ∧ Same F' H' ∧ Reps K F' L H' us' acc B' ∧ noLks us' = true ∧
    (∀ p, B' p → H p = none ∧ F' p = none) ∧ ¬ B' D ∧ lcS vs b p g (items.drop i) en = some rest ∧ us = us' ++ rest
  have nFD : F D = none := S.sF.free hD
  have nLD : L D = none := S.sL.free hD
  refine ⟨fun i m H' => m = items.length - i ∧ i ≤ items.length ∧ P i H', ⟨items.length, by simp, Nat.zero_le _, F, [], us, [], fe, upd_same, nFD, fun a u e => by rw [upd_ne (ne_of_none e hD)]; exact e, Same.refl F, fun a e n => absurd e n, fun a u e => by rw [upd_ne (ne_of_none e nFD)]; exact S.sF a u e, Reps.nil, rfl, fun _ z => z.elim, fun z => z.elim, by rw [List.drop_zero]; exact hr, rfl⟩, ?_⟩
  rintro i m H1 ⟨rfl, hi, F1, us1, rest, acc, B1, hD1, fD1, sm, sf, sg, s1, rp, nl, hB, hBD, hrest, hus⟩
  have pur : Pur F H F1 H1 := ⟨sm, sf, sg, s1⟩
  have sL1 : Same L H1 := S.sL.trans sm
  have sF1 : Same F H1 := S.sF.trans sm
  by_cases hlt : i < items.length
  · refine .inr ⟨wk.go i H1 hlt sF1 sL1, P (i + 1), fun H' p' => ⟨items.length - (i + 1), by omega, rfl, hlt, p'⟩, fun x H2 yl => ?_⟩
    obtain ⟨sy, ry⟩ := wk.yld i H1 x H2 sF1 sL1 yl
    have ei : items[i]? = some items[i] := List.getElem?_eq_getElem hlt
    obtain ⟨Bx, rx, fx⟩ := ry _ ei
    have hdr : items.drop i = items[i] :: items.drop (i + 1) := List.drop_eq_getElem_cons hlt
    rw [hdr] at hrest
    unfold lcS at hrest
    have S1 := S.pur (pur.trans (Pur.new s1 sy))
    obtain ⟨A2, S2, i2⟩ := Stk.wip S1 vs
    have hD2 : H2 D = some (.lst acc) := sy D _ hD1
    cases eb : b items[i] (DT.wip en vs) with
    | none =>
      rw [eb] at hrest
      cases hrest
    | some e1 =>
      rw [eb] at hrest
      dsimp only at hrest
      have dA : ∀ a, A2 a → H a ≠ none := fun a z => S.sl.dom a (i2 a z)
      refine ⟨F1, L, A2, Bx, _, _, e1, S2, Rep.keep (Le.of sf) (Le.refl L) _ _ Bx (fun _ _ => rfl) rx, fun a z w => dA a z (sm.free (fx a w)), fun a z => s1.free (fx a z), fun a z => sL1.free (fx a z), eb, fun σ' A3 S3 i3 wr => ⟨wipe_wr wr hv, ?_⟩⟩
      refine ⟨F1, L, A3, e1, S3, ?_⟩
      have nD3 : ¬ A3 D := fun z => (i3 D z).elim (fun z => dA D z hD) fun z => by rw [fx D z] at hD1; cases hD1
      -- what a step of this turn keeps
      have keepB : ∀ {F3 H3 : Hp}, Pur F1 H2 F3 H3 → (H3 D = some (.lst acc) ∧ F3 D = none) ∧ Same H H3 ∧ Same F F3 ∧ (∀ a, F a = none → F3 a ≠ none → H a = none) ∧ Reps K F3 L H3 us1 acc B1 ∧ ∀ p, B1 p → H p = none ∧ F3 p = none := fun {F3 H3} p3 => by
        have d1 := Reps.dom us1 acc B1 rp
        have none3 : ∀ a, F1 a = none → H1 a ≠ none → F3 a = none := fun a e n => by
          by_cases h : F3 a = none
          · exact h
          · exact absurd (p3.g a e h) (fun z => n (sy.free z))
        refine ⟨⟨p3.h D _ hD2, none3 D fD1 (by rw [hD1]; exact fun z => by cases z)⟩, (sm.trans sy).trans p3.h, sf.trans p3.f, fun a e n => ?_, Reps.keepN (Le.of p3.f) us1 acc B1 nl (fun a z => (Same.eq p3.h (by rw [Same.eq sy (d1 a z)]; exact d1 a z)).trans (Same.eq sy (d1 a z))) rp, fun a z => ⟨(hB a z).1, none3 a (hB a z).2 (d1 a z)⟩⟩
        by_cases h : F1 a = none
        · exact sm.free (sy.free (p3.g a h n))
        · exact sg a e h
      cases ep : p e1 with
      | no =>
        rw [ep] at hrest
        cases hrest
      | ex y =>
        rw [ep] at hrest
        cases hrest
      | ok bb =>
        rw [ep] at hrest
        intro F3 H3 p3
        obtain ⟨⟨k1, k2⟩, k3, k4, k5, k6, k7⟩ := keepB p3
        cases bb with
        | false =>
          rw [if_neg Bool.false_ne_true]
          exact ⟨F3, us1, rest, acc, B1, k1, k2, k3, k4, k5, p3.s, k6, nl, k7, hBD, hrest, hus⟩
        | true =>
          rw [if_pos rfl]
          dsimp only at hrest
          refine ⟨F3, L, A3, e1, S3.pur p3, ?_⟩
          cases eg : g e1 with
          | no =>
            rw [eg] at hrest
            cases hrest
          | ex y =>
            rw [eg] at hrest
            cases hrest
          | ok u =>
            rw [eg] at hrest
            dsimp only at hrest
            by_cases nu : noLk u = true
            · rw [if_pos nu] at hrest
              cases er : lcS vs b p g (items.drop (i + 1)) en with
              | none =>
                rw [er] at hrest
                cases hrest
              | some rest' =>
                rw [er] at hrest
                cases hrest
                intro y F4 H4 B4 p4 r4 b4 c4
                obtain ⟨⟨m1, m2⟩, m3, m4, m5, m6, m7⟩ := keepB (p3.trans p4)
                have la : acc.length = us1.length := (Reps.length rp).symm
                refine ⟨acc, m1, ?_, F4, us1 ++ [u], rest', acc ++ [y], fu B1 B4, upd_same, m2, fun a o e => by rw [upd_ne (ne_of_none e hD)]; exact m3 a o e, m4, m5, fun a o e => by rw [upd_ne (ne_of_none e m2)]; exact p4.s a o e, ?_, ?_, ?_, ?_, er, by rw [List.append_assoc]; exact hus⟩
                · have : us.length = us1.length + (rest'.length + 1) := by
                    rw [hus, List.length_append]
                    rfl
                  rw [la]
                  exact line_lt (by omega)
                · have d4 := Rep.dom _ _ _ r4
                  have nB1 : ∀ z, B1 z → z ≠ D := fun z w e => hBD (e ▸ w)
                  have nB4 : ∀ z, B4 z → z ≠ D := fun z w e => by
                    have := b4 z w
                    rw [e, k1] at this
                    cases this
                  refine Reps.append (Reps.keep (Le.refl _) (Le.refl _) us1 acc B1 (fun z w => upd_ne (nB1 z w)) m6) ?_ fun z w y' => ?_
                  · unfold Reps
                    exact ⟨y, [], B4, fe, rfl, fu_e.symm, dj_e, Rep.keepN (Le.refl _) u y B4 nu (fun z w => upd_ne (nB4 z w)) r4, Reps.nil⟩
                  · exact Reps.dom us1 acc B1 k6 z w (b4 z y')
                · refine noLks_app nl ?_
                  show (noLk u && noLks []) = true
                  rw [nu]
                  rfl
                · intro z w
                  rcases w with w | w
                  · exact m7 z w
                  · exact ⟨k3.free (b4 z w), c4 z w⟩
                · intro w
                  rcases w with w | w
                  · exact hBD w
                  · have := b4 D w
                    rw [k1] at this
                    cases this
            · rw [if_neg nu] at hrest
              cases hrest
  · have e : i = items.length := by omega
    subst e
    rw [List.drop_length] at hrest
    cases hrest
    rw [List.append_nil] at hus
    subst hus
    refine .inl ⟨wk.stop H1 sF1 sL1, q F1 H1 (fu (fo D) B1) pur ?_ (fun p z => z.elim (fun z => by rw [show p = D from z]; exact hD) fun z => (hB p z).1) fun p z => z.elim (fun z => by rw [show p = D from z]; exact fD1) fun z => (hB p z).2⟩
    unfold Rep
    exact ⟨D, acc, B1, rfl, hD1, hBD, rfl, Reps.keepN (Le.refl _) us acc B1 nl (fun _ _ => rfl) rp⟩
section
variable {X : Cx} {W : Wt} {elt tg iter c : Expr} {ifs : List Expr} {pos pos' np spos py : Pos} {g : En → Rv} {gi : En → Ri} {b : T → En → Option En} {p : En → Rb} {k : Nat} {scope : Scope} {own : List (Str × Nat)} {wg : List Nat}
structure VTs (X : Cx) (W : Wt) (p : En → Rb) (ifs : List Expr) : Prop where
  h : PTs X ifs (tT (gx X W) p W.w)
theorem pts_imp {X : Cx} {e : List Expr} {t t' : TT} (h : PTs X e t) (i : ∀ σ H Q, t' σ H Q → t σ H Q) : PTs X e t' := ⟨fun pins s σ H Q I q => h.run pins s σ H Q I (i σ H Q q)⟩
theorem VTs.nil : VTs X W (fun _ => .ok true) [] := ⟨pts_imp pts_nil fun σ H Q q => by
  obtain ⟨F, L, A, en, S, q⟩ := q
  exact q F H (Pur.refl S.sF)⟩
theorem VTs.one (h : VT X W p c) : VTs X W p [c] := ⟨pts_one h⟩
theorem Cxt.blk (C : Cxt k X W) (s : Shared) (H : Hp) (cenv : Env) (fp : List Addr) : Cxt k (X.blk s H scope cenv fp) (w0 []) :=
  ⟨C.cal, C.room, C.nd, fun _ _ ⟨_, _, _, _, _, _, _, _, _, _, _, _, _, _, _, _, w⟩ => w.elim, fun _ z => by cases z⟩
theorem lc_V (hp : W.p = []) (hw : ∀ i ∈ wg, i ∈ own.map (·.2)) {wi : TI} (hi : ∀ (F L H : Hp) (A : Fp) (σ : L2.St) (en : En) (R : It → Hp → Prop), Stk (gx X W) F L H σ en A → (match gi en with
    | .ok ts => ∀ J F' H', Pur F H F' H' → Wk (gx X W) F' L J ts → R J H'
    | .ex x => ∀ cls d F' H', Pur F H F' H' → ExRep (gx X W) F' cls d x → W.w cls d σ H'
    | .no => False) → wi σ H R) {σ : L2.St} {H : Hp} {Q : VK} (q : tV (gx X W) (vLc gi (own.map (·.2)) b p g) W.w σ H Q) :
    tLc wi (tG (gx X (w0 [])) b wg) (tT (gx X (w0 [])) p (w0 []).w) (tV (gx X (w0 [])) g (w0 []).w) (own.map (·.2)) σ H Q := by
  obtain ⟨ww, wp⟩ := W
  dsimp only at hp
  subst hp
  obtain ⟨F, L, A, en, S, q⟩ := q
  refine hi F L H A σ en _ S ?_
  unfold vLc at q
  cases e1 : gi en with
  | no =>
    rw [e1] at q
    exact q
  | ex x =>
    rw [e1] at q
    exact q
  | ok ts =>
    rw [e1] at q
    dsimp only at q
    cases e2 : lcS (own.map (·.2)) b p g ts en with
    | none =>
      rw [e2] at q
      exact q.elim
    | some us =>
      rw [e2] at q
      dsimp only at q
      by_cases hn : us.length ≤ LINE
      · rw [if_pos hn] at q
        intro J F1 H1 p1 wk D hD
        exact lc_walk (S.pur p1) wk hw hD e2 hn fun F' H' B p2 r b1 c1 => q _ F' H' B (p1.trans p2) r (fun a z => p1.h.free (b1 a z)) c1
      · rw [if_neg hn] at q
        exact q.elim
theorem VE.lc (C : Cxt k X W) (hp : W.p = []) (hi : IE X W gi tg iter) (ok : blkC X.N X.env.scope scope own = true) (hw : ∀ i ∈ wg, i ∈ own.map (·.2))
    (hg : ∀ (s : Shared) (H : Hp) (Ca : Addr) (cl : List (Str × Addr)) (fp : List Addr), Cxt k (X.blk s H scope (compEnvC scope cl Ca X.env) fp) (w0 []) → GE (X.blk s H scope (compEnvC scope cl Ca X.env) fp) (w0 []) b wg tg)
    (ht : ∀ (s : Shared) (H : Hp) (Ca : Addr) (cl : List (Str × Addr)) (fp : List Addr), Cxt k (X.blk s H scope (compEnvC scope cl Ca X.env) fp) (w0 []) → VTs (X.blk s H scope (compEnvC scope cl Ca X.env) fp) (w0 []) p ifs)
    (he : ∀ (s : Shared) (H : Hp) (Ca : Addr) (cl : List (Str × Addr)) (fp : List Addr), Cxt k (X.blk s H scope (compEnvC scope cl Ca X.env) fp) (w0 []) → VE (X.blk s H scope (compEnvC scope cl Ca X.env) fp) (w0 []) g elt)
    (hs : ∀ x, foldedSetIterable iter X.env x = pure x := by intro _; rfl) : VE X W (vLc gi (own.map (·.2)) b p g) (.ListComp elt [⟨tg, iter, ifs, 0⟩] scope pos) := by
  obtain ⟨wi, pi, hw'⟩ := hi.ex
  exact pe_imp (pe_lc C.cal C.nd pi (blkOk_by ok) (fun s H Ca cl fp => hg s H Ca cl fp (C.blk s H _ fp)) (fun s H Ca cl fp => (ht s H Ca cl fp (C.blk s H _ fp)).h) (fun s H Ca cl fp => he s H Ca cl fp (C.blk s H _ fp)) hs) fun σ H Q q => lc_V hp hw hw' q
theorem tE_ofV {σ : L2.St} {H : Hp} {Q : VK} {W : WX} (q : tE K (liftV g) W σ H Q) : tV K g W σ H Q := by
  obtain ⟨F, L, A, en, S, q⟩ := q
  refine ⟨F, L, A, en, S, ?_⟩
  unfold liftV at q
  cases e : g en with
  | ok t =>
    rw [e] at q
    intro v F' H' B p r b1 b2
    refine q v F' H' A B (S.pur p) r (fun x z y => absurd (b1 x y) (S.sl.dom x z)) b2 (fun x z => S.sL.free (b1 x z)) (p.step b1)
  | ex x =>
    rw [e] at q
    intro cls d F' H' p r
    exact q cls d F' H' A (S.pur p) r p.step0
  | no =>
    rw [e] at q
    exact q
theorem tS_asg {i : Nat} {f : En → Rs} {W : WX} {D : Ends} {σ : L2.St} {H : Hp} (q : tS K (sAsg i f) W [i] D σ H) : tE K f W σ H fun x H1 => D.nx (σ.set i (some x)) H1 := by
  obtain ⟨F, L, A, en, S, q⟩ := q
  refine ⟨F, L, A, en, S, ?_⟩
  unfold sAsg at q
  cases e1 : f en with
  | no =>
    rw [e1] at q
    exact q
  | ex x en1 =>
    rw [e1] at q
    exact fun cls d F' H' A' S' er st => q cls d σ F' H' A' S' er st Wr.refl
  | ok t en1 =>
    rw [e1] at q
    dsimp only at q
    by_cases nl : noLk t = true
    · rw [if_pos nl] at q
      intro v F' H' A' B S' r dj b1 b2 st
      obtain ⟨A2, S2, i2⟩ := Stk.put (i := i) S' (Rep.keepN (L' := L) (Le.refl _) t v B nl (fun _ _ => rfl) r) dj b1 b2
      exact q _ F' H' A2 S2 (st.sub i2) Wr.set
    · rw [if_neg nl] at q
      exact q.elim
/-- name = [..] on one line -/
theorem SE.setLc {i : Nat} {y : Str} (C : Cxt k X W) (hp : W.p = []) (hi : IE X W gi tg iter) (ok : blkC X.N X.env.scope scope own = true) (hw : ∀ i ∈ wg, i ∈ own.map (·.2))
    (hg : ∀ (s : Shared) (H : Hp) (Ca : Addr) (cl : List (Str × Addr)) (fp : List Addr), Cxt k (X.blk s H scope (compEnvC scope cl Ca X.env) fp) (w0 []) → GE (X.blk s H scope (compEnvC scope cl Ca X.env) fp) (w0 []) b wg tg)
    (ht : ∀ (s : Shared) (H : Hp) (Ca : Addr) (cl : List (Str × Addr)) (fp : List Addr), Cxt k (X.blk s H scope (compEnvC scope cl Ca X.env) fp) (w0 []) → VTs (X.blk s H scope (compEnvC scope cl Ca X.env) fp) (w0 []) p ifs)
    (he : ∀ (s : Shared) (H : Hp) (Ca : Addr) (cl : List (Str × Addr)) (fp : List Addr), Cxt k (X.blk s H scope (compEnvC scope cl Ca X.env) fp) (w0 []) → VE (X.blk s H scope (compEnvC scope cl Ca X.env) fp) (w0 []) g elt)
    (hy : X.N[i]? = some y := by rfl) (hyl : X.env.scope.names.lookup y = some .local := by rfl) (hsw : swapsWith (.ListComp elt [⟨tg, iter, ifs, 0⟩] scope pos) (some (.Name y py)) spos.line X.env = pure true := by rfl)
    (hs : ∀ x, foldedSetIterable iter X.env x = pure x := by intro _; rfl) : SE X W (sAsg i (liftV (vLc gi (own.map (·.2)) b p g))) [i] (.Assign [.Name y py] (.ListComp elt [⟨tg, iter, ifs, 0⟩] scope pos) spos) := by
  obtain ⟨wi, pi, hw'⟩ := hi.ex
  exact ps_imp (ps_setLc C.cal C.nd hy hyl hsw pi (blkOk_by ok) (fun s H Ca cl fp => hg s H Ca cl fp (C.blk s H _ fp)) (fun s H Ca cl fp => (ht s H Ca cl fp (C.blk s H _ fp)).h) (fun s H Ca cl fp => he s H Ca cl fp (C.blk s H _ fp)) hs) fun D σ H q => lc_V hp hw hw' (tE_ofV (tS_asg q))
end

/-! ### reckoning: slices, loops over lists, freezing -/
section
variable {g g1 g2 g3 : En → Rv} {p : En → Rb} {s : En → So} {en : En} {gl gh : En → Ro} {f : En → Rs} {b : T → En → Option En}
def fzS (i : Nat) (s : En → So) (o : Option (Option T)) (en : En) : So := match o with
  | some (some t) => if noLk t = true then s (en.set i (some (.f (era t)))) else s en
  | _ => s en
@[simp] theorem sFz_at {i : Nat} : sFz i s en = fzS i s en[i]? en := by unfold sFz fzS; split <;> simp_all
@[simp] theorem fzS_some {i : Nat} {t : T} : fzS i s (some (some t)) en = if noLk t = true then s (en.set i (some (.f (era t)))) else s en := rfl
@[simp] theorem fzS_none {i : Nat} : fzS i s (some none) en = s en := rfl
@[simp] theorem noLk_ow {k : Kd} {ts : List T} : noLk (.n .ow k ts) = noLks ts := rfl
@[simp] theorem noLk_scr {ns : List Int} : noLk (scr ns) = true := rfl
@[simp] theorem noLks_nil : noLks [] = true := rfl
@[simp] theorem noLks_cons {t : T} {ts : List T} : noLks (t :: ts) = (noLk t && noLks ts) := rfl
@[simp] theorem noLks_append {ts us : List T} : noLks (ts ++ us) = (noLks ts && noLks us) := by
  induction ts with
  | nil => rfl
  | cons t ts ih => rw [List.cons_append, noLks_cons, noLks_cons, ih, Bool.and_assoc]
@[simp] theorem noLks_map {ds : List D} : noLks (ds.map T.f) = true := noLks_f ds
@[simp] theorem era_ow {m : Md} {k : Kd} {ts : List T} : era (.n m k ts) = .n k (eras ts) := rfl
@[simp] theorem eras_mapf {ds : List D} : eras (ds.map T.f) = ds := eras_f ds
@[simp] theorem eras_nil : eras [] = [] := rfl
@[simp] theorem eras_cons {t : T} {ts : List T} : eras (t :: ts) = era t :: eras ts := rfl
@[simp] theorem eras_append {ts us : List T} : eras (ts ++ us) = eras ts ++ eras us := by
  induction ts with
  | nil => rfl
  | cons t ts ih => rw [List.cons_append, eras_cons, eras_cons, ih]; rfl
@[simp] theorem locks_mapf {ds : List D} : locks (ds.map T.f) = ds.map T.f := locks_f ds
@[simp] theorem locks_nil : locks [] = [] := rfl
@[simp] theorem locks_cons {t : T} {ts : List T} : locks (t :: ts) = lock t :: locks ts := rfl
@[simp] theorem locks_append {ts us : List T} : locks (ts ++ us) = locks ts ++ locks us := by
  induction ts with
  | nil => rfl
  | cons t ts ih => rw [List.cons_append, locks_cons, locks_cons, ih]; rfl
@[simp] theorem lock_f {d : D} : lock (.f d) = .f d := rfl
@[simp] theorem lock_n {m : Md} {k : Kd} {ts : List T} : lock (.n m k ts) = .n .lk k (locks ts) := rfl
def gaS (b : T → En → Option En) : Rs → So
  | .ok t e => (if noLk t = true then (match b t e with
    | some e1 => .nx e1
    | none => .no) else .no)
  | .ex x e => .ex x e
  | .no => .no
@[simp] theorem sAsgG_at : sAsgG b f en = gaS b (f en) := by unfold sAsgG gaS; cases f en <;> rfl
def nxO : Option En → So
  | some e => .nx e
  | none => .no
@[simp] theorem nxO_some {e : En} : nxO (some e) = .nx e := rfl
@[simp] theorem gaS_ok {t : T} {e : En} : gaS b (.ok t e) = if noLk t = true then nxO (b t e) else .no := by
  unfold gaS nxO
  rfl
@[simp] theorem gaS_ex {x : Ex} {e : En} : gaS b (.ex x e) = .ex x e := rfl
@[simp] theorem gT_ow {bs : List T → En → Option En} {m : Md} {ts : List T} : gT bs (.n m .tup ts) en = bs ts en := rfl
@[simp] theorem gT_f {bs : List T → En → Option En} {ds : List D} : gT bs (.f (.n .tup ds)) en = bs (ds.map T.f) en := rfl
@[simp] theorem gsCons_at {bs : List T → En → Option En} {t : T} {ts : List T} : gsCons b bs (t :: ts) en = (b t en).bind (bs ts) := rfl
@[simp] theorem gsNil_at : gsNil [] en = some en := rfl
@[simp] theorem oN_at : oN en = .ok none := rfl
def oR : Rv → Ro
  | .ok t => (match intR t with
    | some i => .ok (some i)
    | none => .no)
  | .ex x => .ex x
  | .no => .no
@[simp] theorem oS_at : oS g en = oR (g en) := by unfold oS oR; cases g en <;> rfl
@[simp] theorem oR_i {i : Int} : oR (.ok (.f (.a (.int i)))) = .ok (some i) := rfl
def slR : Rv → Ro → Ro → Rv
  | .ok t, .ok l, .ok u => oRv (sliceT t l u)
  | .ok _, .ok _, .ex x => .ex x
  | .ok _, .ok _, .no => .no
  | .ok _, .ex x, _ => .ex x
  | .ok _, .no, _ => .no
  | r, _, _ => r
@[simp] theorem vSl_at : vSl g gl gh en = slR (g en) (gl en) (gh en) := by
  unfold vSl slR
  cases g en with
  | ok t =>
    cases gl en with
    | ok l =>
      cases gh en with
      | ok u => cases e : sliceT t l u <;> simp [e]
      | _ => rfl
    | _ => rfl
  | _ => rfl
@[simp] theorem slR_ok {t : T} {l u : Option Int} : slR (.ok t) (.ok l) (.ok u) = oRv (sliceT t l u) := rfl
theorem cutT_map {α β : Type} {h : α → β} {xs : List α} {lo hi : Option Int} : cutT (xs.map h) lo hi = (cutT xs lo hi).map h := by
  unfold cutT
  rw [List.length_map, List.map_take, List.map_drop]
theorem cut_to {α : Type} {xs : List α} {k : Nat} : cutT xs none (some (k : Int)) = xs.take k := by
  unfold cutT
  rw [HT.sIx_none, HT.sIx_nat, List.drop_zero, Nat.sub_zero]
  rcases Nat.le_total k xs.length with h | h
  · rw [Nat.min_eq_left h]
  · rw [Nat.min_eq_right h, List.take_length, List.take_of_length_le h]
theorem cut_from {α : Type} {xs : List α} {k : Nat} : cutT xs (some (k : Int)) none = xs.drop k := by
  unfold cutT
  rw [HT.sIx_none, HT.sIx_nat]
  rcases Nat.le_total k xs.length with h | h
  · rw [Nat.min_eq_left h, List.take_of_length_le (by rw [List.length_drop]; omega)]
  · rw [Nat.min_eq_right h, List.drop_length, List.drop_of_length_le h, List.take_nil]
@[simp] theorem slice_l {m : Md} {ts : List T} {lo hi : Option Int} : sliceT (.n m .lst ts) lo hi = some (.n .ow .lst (cutT ts lo hi)) := rfl
@[simp] theorem slice_f {ds : List D} {lo hi : Option Int} : sliceT (.f (.n .lst ds)) lo hi = some (.n .ow .lst ((cutT ds lo hi).map T.f)) := by
  show some (T.n .ow .lst (cutT (ds.map T.f) lo hi)) = _
  rw [cutT_map]
@[simp] theorem slice_scr {ns : List Int} {lo hi : Option Int} : sliceT (scr ns) lo hi = some (.n .ow .lst ((cutT ns lo hi).map I)) := by
  show some (T.n .ow .lst (cutT ((ns.map fun i => D.a (.int i)).map T.f) lo hi)) = _
  rw [List.map_map, cutT_map]
  rfl
@[simp] theorem slice_s {z : Str} {lo hi : Option Int} : sliceT (.f (.a (.str z))) lo hi = if z.length ≤ LINE then some (.f (.a (.str (cutS z lo hi)))) else none := rfl
@[simp] theorem noLks_I {α : Type} {h : α → D} {ns : List α} : noLks (ns.map fun a => T.f (h a)) = true := by
  induction ns with
  | nil => rfl
  | cons n ns ih => rw [List.map_cons, noLks_cons, ih]; rfl
@[simp] theorem addT_s {x y : Str} : addT (.f (.a (.str x))) (.f (.a (.str y))) = if x.length + y.length ≤ LINE then some (.f (.a (.str (x ++ y)))) else none := rfl
@[simp] theorem addT_l {m m' : Md} {ts us : List T} : addT (.n m .lst ts) (.n m' .lst us) = if ts.length + us.length ≤ LINE then some (.n .ow .lst (ts ++ us)) else none := rfl
theorem divmod_i {i j : Int} : divmodT (.f (.a (.int i))) (.f (.a (.int j))) = if 0 < j ∧ j.natAbs.log2 < 9000 then some (.n .ow .tup [I (i / j), I (i % j)]) else none := rfl
theorem log2_le {i : Int} {k : Nat} (h : i.natAbs < 2 ^ k) (hk : 0 < k) : i.natAbs.log2 < k := by
  by_cases z : i.natAbs = 0
  · rw [z]; exact hk
  · exact (Nat.log2_lt z).mpr h
theorem divmodT_i {i j : Int} (h : 0 < j ∧ j < 1073741824) : divmodT (.f (.a (.int i))) (.f (.a (.int j))) = some (.n .ow .tup [I (i / j), I (i % j)]) := if_pos ⟨h.1, (log2_small h).2⟩
/-- the text of an int -/
def itx (i : Int) : Str := Str.ofString (toString i)
theorem strT_k {i : Int} (h : i.natAbs.log2 < 1920) : strT (.f (.a (.int i))) = some (.f (.a (.str (itx i)))) := if_pos h
theorem itx_len {i : Int} {k : Nat} (h0 : 0 ≤ i) (hk : 0 < k) (h : i < 10 ^ k) : (itx i).length ≤ k := PyProof.Rows.toString_length_le h0 hk h
theorem log2_64 {i : Int} (h : i.natAbs < 2 ^ 64) : i.natAbs.log2 < 1920 := Nat.lt_trans (log2_le (k := 64) h (by omega)) (by omega)
theorem strT_i {i : Int} : strT (.f (.a (.int i))) = if i.natAbs.log2 < 1920 then some (.f (.a (.str (toString i)))) else none := rfl
def soR : Rv → Rv
  | .ok t => (match t with
    | .f (.a (.str _)) => .ok t
    | _ => .no)
  | r => r
@[simp] theorem sOnly_at : sOnly g en = soR (g en) := by unfold sOnly soR; cases g en <;> rfl
@[simp] theorem soR_s {x : Str} : soR (.ok (.f (.a (.str x)))) = .ok (.f (.a (.str x))) := rfl
@[simp] theorem zfill_at {x : Str} {i : Int} : zfillT (.f (.a (.str x))) (.f (.a (.int i))) = if PadOk i = true then some (.f (.a (.str (Txt.zfill x i)))) else none := rfl
/-! loops over lists -/
@[simp] theorem iSeqA_at : iSeqA g en = sqA (g (hideO en)) := rfl
@[simp] theorem hideO_nil : hideO [] = [] := rfl
@[simp] theorem hideO_f {d : D} {r : En} : hideO (some (.f d) :: r) = some (.f d) :: hideO r := rfl
@[simp] theorem hideO_scr {ns : List Int} {r : En} : hideO (some (scr ns) :: r) = some (scr ns) :: hideO r := rfl
@[simp] theorem hideO_lk {k : Kd} {ts : List T} {r : En} : hideO (some (.n .lk k ts) :: r) = some (.n .lk k ts) :: hideO r := rfl
@[simp] theorem hideO_ow {k : Kd} {ts : List T} {r : En} : hideO (some (.n .ow k ts) :: r) = none :: hideO r := rfl
@[simp] theorem hideO_none {r : En} : hideO (none :: r) = none :: hideO r := rfl
@[simp] theorem sqA_f {ds : List D} : sqA (.ok (.f (.n .lst ds))) = .ok (ds.map T.f) := by
  unfold sqA seqT
  show (match (itms (ds.map T.f)).map fun us => (true, us) with | some (_, us) => Ri.ok us | none => Ri.no) = _
  rw [itms_f]
  rfl
@[simp] theorem sqA_ft {ds : List D} : sqA (.ok (.f (.n .tup ds))) = .ok (ds.map T.f) := by
  unfold sqA seqT
  show (match (itms (ds.map T.f)).map fun us => (false, us) with | some (_, us) => Ri.ok us | none => Ri.no) = _
  rw [itms_f]
  rfl
@[simp] theorem sqA_scr {ns : List Int} : sqA (.ok (scr ns)) = .ok (ns.map I) := by
  unfold sqA seqT
  show (match (itms ((ns.map fun i => D.a (.int i)).map T.f)).map fun us => (true, us) with | some (_, us) => Ri.ok us | none => Ri.no) = _
  rw [itms_f]
  simp
@[simp] theorem sqA_s {z : Str} : sqA (.ok (.f (.a (.str z)))) = .ok (sgn z) := rfl
@[simp] theorem sqA_ex {x : Ex} : sqA (.ex x) = .ex x := rfl
theorem sqA_n {m : Md} {ds : List D} : sqA (.ok (.n m .lst (ds.map T.f))) = .ok (ds.map T.f) := by
  unfold sqA seqT
  show (match (itms (ds.map T.f)).map fun us => (true, us) with | some (_, us) => Ri.ok us | none => Ri.no) = _
  rw [itms_f]
  rfl
theorem map_I {ns : List Int} : ns.map I = (ns.map fun i => D.a (.int i)).map T.f := by rw [List.map_map]; rfl
end

/-! ### loops by the turn's number, comprehensions -/
theorem lp_ix {b : T → En → Option En} {s : En → So} {J : Nat → En → Prop} : ∀ {items : List T} (k : Nat), (∀ i t, items[i]? = some t → ∀ en, J (k + i) en → ∃ e1 e2, b t en = some e1 ∧ s e1 = .nx e2 ∧ J (k + i + 1) e2) → ∀ en, J k en → ∃ e, lp b s items en = .nx e ∧ J (k + items.length) e
  | [], k, _, en, j => ⟨en, rfl, j⟩
  | t :: ts, k, h, en, j => by
    obtain ⟨e1, e2, h1, h2, h3⟩ := h 0 t rfl en j
    obtain ⟨e, h4, h5⟩ := lp_ix (items := ts) (k + 1) (fun i u hu en' j' => by
      have := h (i + 1) u (by simpa using hu) en' (by rw [show k + (i + 1) = k + 1 + i by omega]; exact j')
      rw [show k + (i + 1) + 1 = k + 1 + i + 1 by omega] at this
      exact this) e2 h3
    refine ⟨e, ?_, by rw [show k + (t :: ts).length = k + 1 + ts.length by simp; omega]; exact h5⟩
    unfold lp
    rw [h1]
    dsimp only
    rw [h2]
    exact h4
theorem range_get {n i : Nat} {t : T} (h : ((List.range n).map fun i : Nat => T.i (i : Int))[i]? = some t) : i < n ∧ t = I (i : Int) := by
  rw [List.getElem?_map] at h
  cases e : (List.range n)[i]? with
  | none => rw [e] at h; cases h
  | some j =>
    rw [e] at h
    obtain ⟨h1, h2⟩ := List.getElem?_eq_some_iff.mp e
    rw [List.getElem_range] at h2
    rw [List.length_range] at h1
    subst h2
    exact ⟨h1, (Option.some.inj h).symm⟩
theorem lcS_all {vs : List Nat} {b : T → En → Option En} {p : En → Rb} {g : En → Rv} {P : T → Prop} {en : En} : ∀ {items : List T}, (∀ t ∈ items, ∃ e1 u, b t (wip en vs) = some e1 ∧ p e1 = .ok true ∧ g e1 = .ok u ∧ noLk u = true ∧ P u) → ∃ us, lcS vs b p g items en = some us ∧ us.length = items.length ∧ ∀ u ∈ us, P u
  | [], _ => ⟨[], rfl, rfl, fun _ z => by cases z⟩
  | t :: ts, h => by
    obtain ⟨e1, u, h1, h2, h3, h4, h5⟩ := h t List.mem_cons_self
    obtain ⟨us, h6, h7, h8⟩ := lcS_all fun u hu => h u (List.mem_cons_of_mem _ hu)
    refine ⟨u :: us, ?_, by simp [h7], fun v hv => ?_⟩
    · unfold lcS
      rw [h1]
      dsimp only
      rw [h2]
      dsimp only
      rw [h3]
      dsimp only
      rw [if_pos h4, h6]
      rfl
    · rcases List.mem_cons.mp hv with rfl | hv
      · exact h5
      · exact h8 v hv
/-- a comprehension that maps -/
theorem lcS_map {α : Type} {vs : List Nat} {b : T → En → Option En} {p : En → Rb} {g : En → Rv} {en : En} {inj : α → T} {φ : α → T} : ∀ {xs : List α}, (∀ a ∈ xs, ∃ e1, b (inj a) (wip en vs) = some e1 ∧ p e1 = .ok true ∧ g e1 = .ok (φ a) ∧ noLk (φ a) = true) → lcS vs b p g (xs.map inj) en = some (xs.map φ)
  | [], _ => rfl
  | a :: xs, h => by
    obtain ⟨e1, h1, h2, h3, h4⟩ := h a List.mem_cons_self
    have h6 := lcS_map fun u hu => h u (List.mem_cons_of_mem _ hu)
    show lcS vs b p g (inj a :: xs.map inj) en = _
    unfold lcS
    rw [h1]
    dsimp only
    rw [h2]
    dsimp only
    rw [h3]
    dsimp only
    rw [if_pos h4, h6]
    rfl
def lcR (r : Ri) (vs : List Nat) (b : T → En → Option En) (p : En → Rb) (g : En → Rv) (en : En) : Rv := match r with
  | .ok ts => (match lcS vs b p g ts en with
    | some us => if us.length ≤ LINE then .ok (.n .ow .lst us) else .no
    | none => .no)
  | .ex x => .ex x
  | .no => .no
@[simp] theorem vLc_at {gi : En → Ri} {vs : List Nat} {b : T → En → Option En} {p : En → Rb} {g : En → Rv} {en : En} : vLc gi vs b p g en = lcR (gi en) vs b p g en := by unfold vLc lcR; cases gi en <;> rfl
theorem lcR_ok {vs : List Nat} {b : T → En → Option En} {p : En → Rb} {g : En → Rv} {en : En} {ts us : List T} (h : lcS vs b p g ts en = some us) (hl : us.length ≤ LINE) : lcR (.ok ts) vs b p g en = .ok (.n .ow .lst us) := by
  unfold lcR
  dsimp only
  rw [h]
  dsimp only
  rw [if_pos hl]
/-! ### lists that grow, items that are set -/
def apR (i : Nat) (o : Option (Option T)) (r : Rv) (en : En) : So := match o with
  | some (some (.n .ow .lst ts)) => (match r with
    | .ok u => if noLk u = true ∧ ts.length < LINE then .nx (en.set i (some (.n .ow .lst (ts ++ [u])))) else .no
    | .ex x => .ex x en
    | .no => .no)
  | _ => .no
@[simp] theorem sApp_at {i : Nat} {g : En → Rv} {en : En} : sApp i g en = apR i en[i]? (g en) en := by
  unfold sApp apR
  cases en[i]? with
  | none => rfl
  | some o =>
    cases o with
    | none => rfl
    | some t =>
      cases t with
      | f d => rfl
      | n m k ts => cases m <;> cases k <;> first | rfl | (cases g en <;> rfl)
@[simp] theorem apR_ok {i : Nat} {ts : List T} {u : T} {en : En} : apR i (some (some (.n .ow .lst ts))) (.ok u) en = if noLk u = true ∧ ts.length < LINE then .nx (en.set i (some (.n .ow .lst (ts ++ [u])))) else .no := rfl
def puR (i : Nat) (o : Option (Option T)) (ri rv : Rv) (en : En) : So := match rv with
  | .ok u => (match ri with
    | .ok t => (match o with
      | some (some (.n .ow k ts)) => (match putT k ts t u with
        | some (k', ts') => if noLk u = true then .nx (en.set i (some (.n .ow k' ts'))) else .no
        | none => .no)
      | _ => .no)
    | _ => .no)
  | .ex x => .ex x en
  | .no => .no
@[simp] theorem sPut_at {i : Nat} {gi gv : En → Rv} {en : En} : sPut i gi gv en = puR i en[i]? (gi en) (gv en) en := by
  unfold sPut puR
  cases gv en with
  | ok u =>
    cases gi en with
    | ok t => rfl
    | _ => rfl
  | _ => rfl
def puO (i : Nat) (u : T) (en : En) : Option (Kd × List T) → So
  | some (k', ts') => if noLk u = true then .nx (en.set i (some (.n .ow k' ts'))) else .no
  | none => .no
@[simp] theorem puR_ok {i : Nat} {k : Kd} {ts : List T} {t u : T} {en : En} : puR i (some (some (.n .ow k ts))) (.ok t) (.ok u) en = puO i u en (putT k ts t u) := by
  unfold puR puO
  rfl
@[simp] theorem puO_some {i : Nat} {u : T} {en : En} {k : Kd} {ts : List T} : puO i u en (some (k, ts)) = if noLk u = true then .nx (en.set i (some (.n .ow k ts))) else .no := rfl
theorem put_lst {ts : List T} {u : T} {k : Nat} (h : k < ts.length) : putT .lst ts (.f (.a (.int k))) u = some (.lst, ts.set k u) := by
  show (ixN ts.length (k : Int)).map (fun j => (Kd.lst, ts.set j u)) = _
  unfold ixN
  rw [if_pos (by omega), if_pos (by omega)]
  simp
/-- an int that is not negative, as a natural -/
theorem I_nat {i : Int} (h : 0 ≤ i) : I i = I ((i.toNat : Nat) : Int) := by rw [Int.toNat_of_nonneg h]
theorem idx_l {m : Md} {ts : List T} {k : Nat} (h : k < ts.length) : idxT (.n m .lst ts) (.f (.a (.int k))) = some ts[k] := by
  show atI ts (k : Int) = _
  unfold atI ixN
  rw [if_pos (by omega), if_pos (by omega)]
  simp [h]
theorem idx_f {ds : List D} {k : Nat} (h : k < ds.length) : idxT (.f (.n .lst ds)) (.f (.a (.int k))) = some (.f ds[k]) := by
  show atI (ds.map T.f) (k : Int) = _
  unfold atI ixN
  have h1 : (ds.map T.f).length = ds.length := List.length_map ..
  rw [h1, if_pos (by omega), if_pos (by omega)]
  simp [h]
theorem idx_s {z : Str} {i : Int} (h0 : 0 ≤ i) (h1 : i < z.length) (hl : z.length ≤ LINE) : ∃ c : Nat, c ∈ z.cps.toList ∧ idxT (.f (.a (.str z))) (.f (.a (.int i))) = some (.f (.a (.str ⟨#[c]⟩))) := by
  have hz : z.length = z.cps.toList.length := by simp [Str.length]
  have hk : i.toNat < z.cps.toList.length := by omega
  refine ⟨z.cps.toList[i.toNat], List.getElem_mem hk, ?_⟩
  show (if z.length ≤ LINE then (atI z.cps.toList i).map (fun c => T.s ⟨#[c]⟩) else none) = _
  rw [if_pos hl]
  unfold atI ixN
  rw [if_pos h0, if_pos (by omega)]
  simp [hk]
@[simp] theorem lenT_ow {m : Md} {ts : List T} : lenT (.n m .lst ts) = some (.f (.a (.int ts.length))) := rfl
@[simp] theorem inT_sgn {c : Nat} {z : Str} : inT (.f (.a (.str ⟨#[c]⟩))) (.f (.a (.str z))) = some (.f (.a (.bl (decide (c ∈ z.cps.toList))))) := rfl
@[simp] theorem notInT_sgn {c : Nat} {z : Str} : notInT (.f (.a (.str ⟨#[c]⟩))) (.f (.a (.str z))) = some (.f (.a (.bl (!decide (c ∈ z.cps.toList))))) := rfl
theorem strsT_sgn : ∀ cs : List Nat, strsT (cs.map fun c => T.s ⟨#[c]⟩) = some (cs.map fun c => (⟨#[c]⟩ : Str))
  | [] => rfl
  | c :: cs => by
    show (strsT (cs.map fun c => T.s ⟨#[c]⟩)).map ((⟨#[c]⟩ : Str) :: ·) = _
    rw [strsT_sgn cs]
    rfl
theorem blsT_map {α : Type} {h : α → Bool} : ∀ xs : List α, blsT (xs.map fun a => T.b (h a)) = some (xs.map h)
  | [] => rfl
  | x :: xs => by
    show (blsT (xs.map fun a => T.b (h a))).map (h x :: ·) = _
    rw [blsT_map xs]
    rfl
theorem intsT_map : ∀ xs : List Int, intsT (xs.map I) = some xs
  | [] => rfl
  | x :: xs => by
    show (intsT (xs.map I)).map (x :: ·) = _
    rw [intsT_map xs]
    rfl
theorem allT_map {α : Type} {h : α → Bool} {xs : List α} {m : Md} : allT (.n m .lst (xs.map fun a => T.b (h a))) = some (.f (.a (.bl (xs.all h)))) := by
  show ((blsT (xs.map fun a => T.b (h a))).map fun ns => T.b (ns.all id)) = _
  rw [blsT_map]
  simp
theorem join_len {ys : List Str} (h : ∀ y ∈ ys, y.length = 1) : (Txt.join "" ys).length = ys.length := by
  rw [TL.join_eq]
  induction ys with
  | nil => rfl
  | cons y ys ih =>
    have e0 : (Str.ofString "").length = 0 := by decide
    cases ys with
    | nil => exact h y List.mem_cons_self
    | cons z zs =>
      show (y ++ Str.ofString "" ++ Str.join "" (z :: zs)).length = _
      rw [PySem.Str.length_append, PySem.Str.length_append, ih fun u hu => h u (List.mem_cons_of_mem _ hu), h y List.mem_cons_self, e0]
      simp
      omega
theorem joinT_l {a : Str} {m : Md} {ts : List T} {ys : List Str} (h : strsT ts = some ys) (hl : (ys.map fun y : Str => y.length).sum + ys.length * a.length ≤ LINE) : joinT (.f (.a (.str a))) (.n m .lst ts) = some (.f (.a (.str (Txt.join a ys)))) := by
  show (match strsT ts with | some ys => if (ys.map fun y : Str => y.length).sum + ys.length * a.length ≤ LINE then some (T.s (Txt.join a ys)) else none | none => none) = _
  rw [h]
  dsimp only
  rw [if_pos hl]
def chR (φ ψ : T → T → Option T) : Rv → Rv → Rv → Rv
  | .ok t1, .ok t2, r3 => (match φ t1 t2 with
    | some t => (match blR t with
      | some true => (match r3 with
        | .ok t3 => oRv (ψ t2 t3)
        | .ex x => .ex x
        | .no => .no)
      | some false => .ok (.b false)
      | none => .no)
    | none => .no)
  | .ok _, r, _ => r
  | r, _, _ => r
@[simp] theorem ch2_at {φ ψ : T → T → Option T} {g1 g2 g3 : En → Rv} {en : En} : ch2 φ ψ g1 g2 g3 en = chR φ ψ (g1 en) (g2 en) (g3 en) := by
  unfold ch2 chR
  cases g1 en with
  | ok t1 =>
    cases g2 en with
    | ok t2 =>
      dsimp only
      cases φ t1 t2 with
      | none => rfl
      | some t =>
        dsimp only
        cases blR t with
        | none => rfl
        | some b =>
          cases b with
          | false => rfl
          | true =>
            dsimp only
            cases g3 en with
            | ok t3 =>
              dsimp only
              cases ψ t2 t3 <;> rfl
            | _ => rfl
    | _ => rfl
  | _ => rfl
@[simp] theorem chR_le {i j k : Int} : chR leT leT (.ok (.f (.a (.int i)))) (.ok (.f (.a (.int j)))) (.ok (.f (.a (.int k)))) = .ok (.f (.a (.bl (decide (i ≤ j ∧ j ≤ k))))) := by
  unfold chR
  simp only [leT_i]
  by_cases h : i ≤ j
  · simp [h, blR]
  · simp [h, blR]
end DT
/-! Data trees, part 17: own objects. -/
namespace DT
open PySem L2
variable {K : Gx}

/-! ### facts of own classes -/
def clB (K : PySem.W.Frag) (c : String) : Bool := PySem.W.plainGet K (cA K c) Str.empty && (PySem.W.hasDictIn K (cA K c) && (PySem.W.plainOver K (cA K c) && decide (PySem.W.findIn K (.ref (cA K c)) "__setattr__" = some (some (.builtin "object.__setattr__")))))
theorem clB_ok {K : PySem.W.Frag} {c : String} (h : clB K c = true) : Cls K (cA K c) := by
  obtain ⟨h1, h⟩ := and2 h
  obtain ⟨h2, h⟩ := and2 h
  obtain ⟨h3, h4⟩ := and2 h
  exact ⟨h1, h2, h3, of_decide_eq_true h4⟩
/-- no class of it has the name -/
def noB (K : PySem.W.Frag) (c : String) (f : Str) : Bool := decide (PySem.W.findIn K (.ref (cA K c)) f = some none)
theorem noB_ok {K : PySem.W.Frag} {c : String} {f : Str} (h : noB K c f = true) : NoAttr K (cA K c) f := by
  unfold noB at h
  have z : PySem.W.findIn K (.ref (cA K c)) f = some none := of_decide_eq_true h
  exact z
def mkB (K : PySem.W.Frag) (c b : String) : Bool := PySem.W.makesIn K (cA K c) && (decide (PySem.W.findIn K (.ref (cA K c)) "__init__" = some (some (.ref (He.ma K (cA K b) "__init__")))) && (PySem.W.isFn K (.ref (He.ma K (cA K b) "__init__")) && PySem.W.keepIn K (.ref (cA K c))))
theorem mkB_ok {K : PySem.W.Frag} {c b : String} (h : mkB K c b = true) : Mk K (cA K c) (He.ma K (cA K b) "__init__") := by
  obtain ⟨h1, h⟩ := and2 h
  obtain ⟨h2, h⟩ := and2 h
  obtain ⟨h3, h4⟩ := and2 h
  exact ⟨h1, of_decide_eq_true h2, h3, h4⟩
def meB (K : PySem.W.Frag) (c b : String) (m : Str) : Bool := decide (PySem.W.findIn K (.ref (cA K c)) m = some (some (.ref (He.ma K (cA K b) m)))) && (PySem.W.isFn K (.ref (He.ma K (cA K b) m)) && PySem.W.keepIn K (.ref (He.ma K (cA K b) m)))
theorem meB_ok {K : PySem.W.Frag} {c b : String} {m : Str} (h : meB K c b m = true) : Meth K (cA K c) m (He.ma K (cA K b) m) := by
  obtain ⟨h1, h⟩ := and2 h
  obtain ⟨h3, h4⟩ := and2 h
  exact ⟨of_decide_eq_true h1, h3, h4⟩

/-! ### fields -/
def fputK : List Str → Str → List Str
  | [], f => [f]
  | g :: fs, f => if g = f then g :: fs else g :: fputK fs f
def fputV {α : Type} : List Str → List α → Str → α → List α
  | g :: fs, x :: xs, f, y => if g = f then y :: xs else x :: fputV fs xs f y
  | [], _, _, y => [y]
  | _ :: _, [], _, _ => []
theorem fput_zip {f : Str} {y : V} : ∀ {fs : List Str} {vs : List V}, fs.length = vs.length → (fputK fs f).zip (fputV fs vs f y) = putF f y (fs.zip vs) ∧ (fputK fs f).length = (fputV fs vs f y).length
  | [], [], _ => ⟨rfl, rfl⟩
  | g :: fs, v :: vs, h => by
    obtain ⟨h1, h2⟩ := fput_zip (f := f) (y := y) (show fs.length = vs.length by simpa using h)
    unfold fputK fputV
    by_cases e : g = f
    · simp [e, putF]
      simpa using h
    · simp [e, putF, h1, h2]
  | [], _ :: _, h => by cases h
  | _ :: _, [], h => by cases h
theorem Reps.fput {F L H : Hp} : ∀ {fs : List Str} {ts : List T} {vs : List V} {A B : Fp} {f : Str} {u : T} {y : V}, Reps K F L H ts vs A → fs.length = vs.length → Rep K F L H u y B → Dj A B → ∃ C, Reps K F L H (fputV fs ts f u) (fputV fs vs f y) C ∧ ∀ p, C p → A p ∨ B p
  | [], ts, vs, A, B, f, u, y, h, hl, r, dj => by
    cases vs with
    | cons => cases hl
    | nil =>
      cases ts with
      | cons => exact absurd (Reps.length h) (by simp)
      | nil =>
        refine ⟨B, ?_, fun _ z => .inr z⟩
        show Reps K F L H [u] [y] B
        unfold Reps
        exact ⟨y, [], B, fe, rfl, fu_e.symm, dj_e, r, Reps.nil⟩
  | k :: ks, [], vs, A, B, f, u, y, h, hl, r, dj => by
    unfold Reps at h
    obtain ⟨rfl, _⟩ := h
    cases hl
  | k :: ks, t :: ts, vs, A, B, f, u, y, h, hl, r, dj => by
    unfold Reps at h
    obtain ⟨v, ws, A1, A2, rfl, rfl, c, d, e⟩ := h
    unfold fputV
    by_cases ek : k = f
    · rw [if_pos ek, if_pos ek]
      refine ⟨fu B A2, ?_, fun p z => z.elim .inr fun z => .inl (.inr z)⟩
      unfold Reps
      exact ⟨y, ws, B, A2, rfl, rfl, fun p x z => dj p (.inr z) x, r, e⟩
    · rw [if_neg ek, if_neg ek]
      obtain ⟨C, h1, h2⟩ := Reps.fput (f := f) e (by simpa using hl) r fun p x z => dj p (.inr x) z
      refine ⟨fu A1 C, ?_, fun p z => z.elim (fun z => .inl (.inl z)) fun z => (h2 p z).imp .inr id⟩
      unfold Reps
      exact ⟨v, _, A1, C, rfl, rfl, fun p x z => (h2 p z).elim (c p x) (dj p (.inl x)), d, h1⟩
def fldT (cs : List String) (f : Str) (t : T) : Option T := match kids t with
  | some (.ins c fs, ts) => if cs.contains c = true then fget fs ts f else none
  | _ => none
def rFld (K : PySem.W.Frag) (f : Str) : R1 := fun x H Q => ∃ a C dx fs v, x = .ref a ∧ H a = some (.ins C dx fs) ∧ Cls K C ∧ NoAttr K C f ∧ fs.lookup f = some v ∧ Q v H
def flOk (K : PySem.W.Frag) (cs : List String) (f : Str) : Bool := cs.all fun c => clB K c && noB K c f
section
variable {X : Cx} {W : Wt} {e a b c o : Expr} {es : List Expr} {pos pos' np p apos p2 : Pos} {g g1 g2 : En → Rv} {gs : En → Rvs} {k l n : Nat} {x : Str} {f : Str}
theorem o1_fld {cs : List String} (hx : flOk X.K cs f = true) : Op1 (gx X W) (rFld X.K f) (fldT cs f) := Op1.part fun F L H x t1 t A1 sF sL r1 e => by
  unfold fldT at e
  split at e
  · rename_i c fs ts ek
    split at e
    · rename_i hc
      obtain ⟨p, vs, B, rfl, o, i, r⟩ := Rep.kids r1 ek sF sL
      obtain ⟨hl, dx, ho⟩ := o
      obtain ⟨v, B', h1, h2, h3⟩ := Reps.fget r hl e
      obtain ⟨h4, h5⟩ := and2 (List.all_eq_true.mp hx c (by simpa using hc))
      exact ⟨v, B', h2, fun a z => i a (h3 a z), fun Q q => ⟨p, _, dx, _, v, rfl, ho, clB_ok h4, noB_ok h5, h1, q⟩⟩
    · cases e
  · cases e
theorem VE.fld {cs : List String} (hx : flOk X.K cs f = true) (h : VE X W g e) (hb : attributeBase e f X.env (eval e X.env) = eval e X.env := by rfl) : VE X W (v1 (fldT cs f) g) (.Attribute e f pos) :=
  pe_imp (pe_fld h hb) fun σ H Q q => v1_ok (o1_fld hx) q
/-- x.f = e, x a name -/
def sFldP (i : Nat) (cs : List String) (f : Str) (g : En → Rv) : En → So := fun en => match g en with
  | .ok u => (match en[i]? with
    | some (some (.n .ow (.ins c fs) ts)) => if (noLk u = true ∧ cs.contains c = true) ∧ fs.length < 1000 then .nx (en.set i (some (.n .ow (.ins c (fputK fs f)) (fputV fs ts f u)))) else .no
    | _ => .no)
  | .ex x => .ex x en
  | .no => .no
theorem SE.fld {i : Nat} {cs : List String} (hx : flOk X.K cs f = true) (h : VE X W g e) (hN : X.N[i]? = some x := by rfl) (hv : Vis X.env.scope x := by first | exact Or.inl rfl | exact Or.inr (Or.inl rfl) | exact Or.inr (Or.inr rfl)) (hd : (x == ("__debug__" : Str)) = false := by decide)
    (hcd : (x == ("__classdict__" : Str)) = false := by decide) (hs : swapsWith e (some (.Attribute (.Name x p2) f pos')) pos.line X.env = pure false := by rfl) : SE X W (sFldP i cs f g) [] (.Assign [.Attribute (.Name x p2) f pos'] e pos) :=
  ps_imp (ps_fld (pe_var hN hv hd hcd) h hs) fun D σ H q => by
    obtain ⟨F, L, A, en, S, q⟩ := q
    refine ⟨F, L, A, en, S, ?_⟩
    unfold sFldP at q
    cases e1 : g en with
    | no =>
      rw [e1] at q
      exact q
    | ex y =>
      rw [e1] at q
      exact fun cls d F' H' pu er => q cls d σ F' H' A (S.pur pu) er pu.step0 Wr.refl
    | ok u =>
      rw [e1] at q
      dsimp only at q
      intro y F1 H1 B1 p1 r1 b1 c1
      split at q
      · rename_i c fs ts e3
        split at q
        · rename_i hc
          obtain ⟨⟨nl, hcs⟩, hlen⟩ := hc
          obtain ⟨q0, vs, Bi, k1, k2, k3, k4, k5, k6, k7, k8⟩ := Stk.write (k' := .ins c (fputK fs f)) (ts' := fputV fs ts f u) S e3 p1 (B := B1) b1 c1
          obtain ⟨hl, dx, ho⟩ := k3
          obtain ⟨h4, h5⟩ := and2 (List.all_eq_true.mp hx c (by simpa using hcs))
          refine ⟨.ref q0, k1, q0, _, dx, _, rfl, ho, clB_ok h4, noB_ok h5, by rw [List.length_zip, ← hl, Nat.min_self]; exact hlen, ?_⟩
          have nq : ∀ z, Bi z → z ≠ q0 := fun z w y => k6 (y ▸ w)
          have nB : ∀ z, B1 z → z ≠ q0 := fun z w y => k2 (y ▸ b1 z w)
          obtain ⟨z1, z2⟩ := fput_zip (f := f) (y := y) hl
          obtain ⟨C, w1, w2⟩ := Reps.fput (f := f) (Reps.keep (Le.refl _) (Le.refl _) ts vs Bi (fun z w => upd_ne (nq z w)) k4 : Reps (gx X W) F1 L (upd H1 q0 (.ins (cA X.K c) dx (putF f y (fs.zip vs)))) ts vs Bi) hl (Rep.keepN (Le.refl _) u y B1 nl (fun z w => upd_ne (nB z w)) r1) k5
          obtain ⟨A', S', st⟩ := k8 (.ins (cA X.K c) dx (putF f y (fs.zip vs))) (fputV fs vs f y) C ⟨z2, dx, by rw [upd_same, z1]; rfl⟩ w1 w2
          exact q σ _ _ A' S' st Wr.refl
        · exact q.elim
      · exact q.elim

/-! ### the end of a call -/
theorem call_fin {n : Nat} {r : List T → Cr} {W : WX} {σ : L2.St} {Q : VK} {F L H F1 H1 : Hp} {A B1 : Fp} {en : En} {ts : List T} {vs : List V} (S : Stk K F L H σ en A) (p1 : Pur F H F1 H1) (r1 : Reps K F1 (vw L H1 A) H1 ts vs B1) (b1 : ∀ p, B1 p → H p = none) (c1 : ∀ p, B1 p → F1 p = none) (hl : ts.length = n) (q : match (r ts).v with
    | .ok t => ∀ v F' H' B, Pur F H F' H' → Rep K F' (vw L H' A) H' t v B → (∀ p, B p → H p = none) → (∀ p, B p → F' p = none) → Q v H'
    | .ex x => ∀ cls d F' H', Pur F H F' H' → ExRep K F' cls d x → W cls d σ H'
    | .no => False) : spS K n r vs H1 Q fun cls d H' => W cls d σ H' := by
  have S1 := S.pur p1
  have fresh : ∀ a, B1 a → ¬ A a := fun a z w => S.sl.dom a w (b1 a z)
  have hL : ∀ a, B1 a → vw L H1 A a = none := fun a z => by
    rw [vw_out (fresh a z)]
    exact S.sL.free (b1 a z)
  refine ⟨by rw [← Reps.length r1]; exact hl, F1, vw L H1 A, B1, ts, ⟨Slots.of_reps r1, S1.sF, vw_same S1.sL, c1, hL⟩, ?_⟩
  have pur : ∀ {F' H' : Hp} {C : Fp}, Step F1 H1 B1 F' H' C → Pur F H F' H' := fun {F' H' C} st => ⟨fun a o e => st.fr a o (p1.h a o e) fun z => (by rw [b1 a z] at e; cases e), p1.f.trans st.fx, fun a e n => by
    by_cases z : F1 a = none
    · rcases st.fg a z n with y | y
      · exact b1 a y
      · exact p1.h.free y
    · exact p1.g a e z, st.sF⟩
  cases e2 : r ts with
  | no =>
    rw [e2] at q
    exact q
  | ex x ps =>
    rw [e2] at q
    intro cls d F' H' A' S' er st
    exact q cls d F' H' (pur st) er
  | ok t ps =>
    rw [e2] at q
    intro v F' H' A' B S' rp nl dj h1 h2 st
    refine q v F' H' B (pur st) (Rep.keepN (Le.refl _) t v B nl (fun _ _ => rfl) rp) (fun a z => ?_) h1
    rcases st.ow a (.inr z) with y | y
    · exact b1 a y
    · exact p1.h.free y
/-! ### methods that are only asked -/
/-- a class's method: where it stands, what it does -/
structure Mok (P : Program) (w : World) (K : PySem.W.Frag) (mg : Str → Option Value) (base : Heap) (c : String) (m : Str) (l n : Nat) (r : List T → Cr) : Prop where
  cl : Cls K (cA K c)
  ex : ∃ (f : Addr) (fd : FuncData) (ps : List Str), Meth K (cA K c) m f ∧ FnOk P w K mg base (L2N.CX P w) l f fd ps (spS ⟨K, []⟩ n r) ∧ Binds K fd ps []
/-- by the class, which of the table is meant -/
def mPick (tb : List (String × (List T → Cr))) (m : Str) (t : T) : Option (List T → Cr) := match kids t with
  | some (.ins c fs, _) => if fs.contains m = true then none else tb.lookup c
  | _ => none
def vMeth (tb : List (String × (List T → Cr))) (m : Str) (g : En → Rv) (gs : En → Rvs) : En → Rv := fun en => match g en with
  | .ok t => (match mPick tb m t with
    | some r => (match gs en with
      | .ok ts => (r (t :: ts)).v
      | .ex x => .ex x
      | .no => .no)
    | none => .no)
  | r => r
/-- the table's facts -/
inductive Mtab (P : Program) (w : World) (K : PySem.W.Frag) (mg : Str → Option Value) (base : Heap) (m : Str) (l n : Nat) : List (String × (List T → Cr)) → Prop
  | nil : Mtab P w K mg base m l n []
  | cons {c : String} {r : List T → Cr} {tb : List (String × (List T → Cr))} {j : Nat} (h : Mok P w K mg base c m j n r) (t : Mtab P w K mg base m l n tb) (hj : j ≤ l := by decide) : Mtab P w K mg base m l n ((c, r) :: tb)
theorem Mtab.get {P : Program} {w : World} {K : PySem.W.Frag} {mg : Str → Option Value} {base : Heap} {m : Str} {l n : Nat} {tb : List (String × (List T → Cr))} (h : Mtab P w K mg base m l n tb) {c : String} {r : List T → Cr} (e : tb.lookup c = some r) : ∃ j, j ≤ l ∧ Mok P w K mg base c m j n r := by
  induction h with
  | nil => cases e
  | @cons c' r' tb' j h t hj ih =>
    have e2 : (match c == c' with | true => some r' | false => tb'.lookup c) = some r := e
    cases q : (c == c') with
    | true =>
      rw [q] at e2
      cases e2
      have : c = c' := by simpa using q
      subst this
      exact ⟨j, hj, h⟩
    | false =>
      rw [q] at e2
      exact ih e2
theorem lookup_none {fs : List Str} {m : Str} : ∀ {vs : List V}, fs.contains m = false → (fs.zip vs).lookup m = none := by
  induction fs with
  | nil => intro vs h; rfl
  | cons f fs ih =>
    intro vs h
    cases vs with
    | nil => rfl
    | cons v vs =>
      have h2 : (m == f || fs.contains m) = false := by
        rw [List.contains_cons] at h
        exact h
      obtain ⟨h3, h4⟩ := Bool.or_eq_false_iff.mp h2
      show (match m == f with | true => some v | false => (fs.zip vs).lookup m) = none
      rw [h3]
      exact ih h4
theorem VE.meth {tb : List (String × (List T → Cr))} {m : Str} {pl : Sem Bool} (C : Cxt k X W) (p0 : W.p = []) (M : Mtab X.prog X.w X.K X.mg X.base m l n tb) (h : VE X W g o) (ha : AE X W gs (e :: es)) (hj : l ≤ k := by decide) (hn : (e :: es).length + 1 = n := by rfl)
    (hst : starEach (e :: es) X.env = (false, eval e X.env) :: starEach es X.env := by rfl) (hpl : (backTo pos (starEach es X.env)).any (·.1) = false := by rfl)
    (ht : eval (.Call (.Attribute o m apos) (e :: es) [] pos) X.env = (do
      let ov ← eval o X.env
      standAt apos.atName
      let (f, first) ← holding [ov] (getMethod ov m pl)
      callWith pos f first (backTo pos (starEach (e :: es) X.env)) (backToKw pos (keywordEach [] X.env))) := by rfl) : VE X W (vMeth tb m g gs) (.Call (.Attribute o m apos) (e :: es) [] pos) := by
  obtain ⟨ww, wp⟩ := W
  dsimp only at p0
  subst p0
  refine ⟨fun pins s σ H Q I q => ?_⟩
  refine PySem.W.methodCall_KW (pl := pl) (thn (h.run pins s σ H (fun x H1 => ∃ (a dx : Addr) (c : String) (fs : List (Str × V)) (j : Nat) (r : List T → Cr), x = .ref a ∧ H1 a = some (.ins (cA X.K c) dx fs) ∧ fs.lookup m = none ∧ j ≤ l ∧ Mok X.prog X.w X.K X.mg X.base c m j n r ∧
    tVA (gx X ⟨ww, []⟩) gs ww σ H1 fun vs H2 => spS (gx X ⟨ww, []⟩) n r (.ref a :: vs) H2 Q fun cls d H' => ww cls d σ H') I ?_) fun u s1 ⟨x, H1, I1, rx, a, dx, c, fs, j, r, ex, ea, lm, hjl, mo, q⟩ => ?_) ht
  · obtain ⟨F, L, A, en, S, q⟩ := q
    refine ⟨F, L, A, en, S, ?_⟩
    unfold vMeth at q
    cases e1 : g en with
    | no =>
      rw [e1] at q
      exact q
    | ex x =>
      rw [e1] at q
      exact q
    | ok t =>
      rw [e1] at q
      dsimp only at q
      intro v F1 H1 B1 p1 r1 b1 c1
      cases e2 : mPick tb m t with
      | none =>
        rw [e2] at q
        exact q.elim
      | some r =>
        rw [e2] at q
        dsimp only at q
        have S1 := S.pur p1
        have e2' := e2
        unfold mPick at e2'
        split at e2'
        · rename_i c fs us ek
          split at e2'
          · cases e2'
          · rename_i hm
            obtain ⟨p, vs, B, rfl, o, i, rr⟩ := Rep.kids r1 ek S1.sF (vw_same S1.sL)
            obtain ⟨hl, dx, ho⟩ := o
            obtain ⟨j, hjl, mo⟩ := M.get e2'
            refine ⟨p, dx, c, _, j, r, rfl, ho, lookup_none (by simpa using hm), hjl, mo, F1, L, A, en, S1, ?_⟩
            cases e3 : gs en with
            | no =>
              rw [e3] at q
              exact q
            | ex y =>
              rw [e3] at q
              exact fun cls d F2 H2 p2 er => q cls d F2 H2 (p1.trans p2) er
            | ok ts =>
              rw [e3] at q
              intro ws F2 H2 B2 p2 r2 b2 c2
              have d1 := Rep.dom _ _ _ r1
              have r1' := Rep.keep (Le.of p2.f) (Le.of (vw_mono p2.h)) t _ B1 (fun a z => Same.eq p2.h (d1 a z)) r1
              refine call_fin (B1 := fu B1 B2) (ts := t :: ts) S (p1.trans p2) ?_ (fun a z => z.elim (b1 a) fun z => p1.h.free (b2 a z)) (fun a z => z.elim (fun z => ?_) (c2 a)) (by rw [← hn, ← ha.len en ts e3]; rfl) q
              · unfold Reps
                exact ⟨_, ws, B1, B2, rfl, rfl, fun a z y => d1 a z (b2 a y), r1', r2⟩
              · by_cases w : F2 a = none
                · exact w
                · exact absurd (p2.g a (c1 a z) w) (d1 a z)
        · cases e2'
  · subst ex
    obtain rfl : u = Value.ref a := rx
    obtain ⟨f, fd, ps, hm, F, hb⟩ := mo.ex
    refine getmeth_ok I1 ea mo.cl hm lm ?_
    refine PySem.W.callWith_K (first := [.ref a]) (h₀ := X.base) I.ok.mod.kin hm.kp (thn (ha.pa.run pos pins s1 σ H1 _ I1 q) fun us s2 ⟨vs, H2, I2, r, q2⟩ => ⟨I2.kIn, ?_⟩) hst hpl
    exact run_fnS (us := .ref a :: us) (vs := .ref a :: vs) (E := fun σ cls d H => ww cls d σ H) F (C.room.mono (Nat.le_trans hjl hj)) hb (L2N.passAt C.tk σ) I2 (.cons rfl r) q2
theorem VE.meth0 {tb : List (String × (List T → Cr))} {m : Str} {pl : Sem Bool} (C : Cxt k X W) (p0 : W.p = []) (M : Mtab X.prog X.w X.K X.mg X.base m l 1 tb) (h : VE X W g o) (hj : l ≤ k := by decide)
    (ht : eval (.Call (.Attribute o m apos) [] [] pos) X.env = (do
      let ov ← eval o X.env
      standAt apos.atName
      let (f, first) ← holding [ov] (getMethod ov m pl)
      callWith pos f first (backTo pos (starEach [] X.env)) (backToKw pos (keywordEach [] X.env))) := by rfl) : VE X W (vMeth tb m g aNil) (.Call (.Attribute o m apos) [] [] pos) := by
  obtain ⟨ww, wp⟩ := W
  dsimp only at p0
  subst p0
  refine ⟨fun pins s σ H Q I q => ?_⟩
  refine PySem.W.methodCall_KW (pl := pl) (thn (h.run pins s σ H (fun x H1 => ∃ (a dx : Addr) (c : String) (fs : List (Str × V)) (j : Nat) (r : List T → Cr), x = .ref a ∧ H1 a = some (.ins (cA X.K c) dx fs) ∧ fs.lookup m = none ∧ j ≤ l ∧ Mok X.prog X.w X.K X.mg X.base c m j 1 r ∧
    spS (gx X ⟨ww, []⟩) 1 r [.ref a] H1 Q fun cls d H' => ww cls d σ H') I ?_) fun u s1 ⟨x, H1, I1, rx, a, dx, c, fs, j, r, ex, ea, lm, hjl, mo, q⟩ => ?_) ht
  · obtain ⟨F, L, A, en, S, q⟩ := q
    refine ⟨F, L, A, en, S, ?_⟩
    unfold vMeth aNil at q
    cases e1 : g en with
    | no =>
      rw [e1] at q
      exact q
    | ex x =>
      rw [e1] at q
      exact q
    | ok t =>
      rw [e1] at q
      dsimp only at q
      intro v F1 H1 B1 p1 r1 b1 c1
      cases e2 : mPick tb m t with
      | none =>
        rw [e2] at q
        exact q.elim
      | some r =>
        rw [e2] at q
        dsimp only at q
        have S1 := S.pur p1
        have e2' := e2
        unfold mPick at e2'
        split at e2'
        · rename_i c fs us ek
          split at e2'
          · cases e2'
          · rename_i hm
            obtain ⟨p, vs, B, rfl, o, i, rr⟩ := Rep.kids r1 ek S1.sF (vw_same S1.sL)
            obtain ⟨hl, dx, ho⟩ := o
            obtain ⟨j, hjl, mo⟩ := M.get e2'
            refine ⟨p, dx, c, _, j, r, rfl, ho, lookup_none (by simpa using hm), hjl, mo, ?_⟩
            refine call_fin (B1 := B1) (ts := [t]) S p1 ?_ b1 c1 rfl q
            unfold Reps
            exact ⟨_, [], B1, fe, rfl, fu_e.symm, dj_e, r1, Reps.nil⟩
        · cases e2'
  · subst ex
    obtain rfl : u = Value.ref a := rx
    obtain ⟨f, fd, ps, hm, F, hb⟩ := mo.ex
    refine getmeth_ok I1 ea mo.cl hm lm ?_
    exact PySem.W.callWith_K0 (first := [.ref a]) I1.kIn hm.kp (run_fnS (us := [.ref a]) (vs := [.ref a]) (E := fun σ cls d H => ww cls d σ H) F (C.room.mono (Nat.le_trans hjl hj)) hb (L2N.passAt C.tk σ) I1 (.cons rfl .nil) q)

/-! ### making -/
structure Iok (P : Program) (w : World) (K : PySem.W.Frag) (mg : Str → Option Value) (base : Heap) (c : String) (l n : Nat) (r : List T → Cr) : Prop where
  gm : mg (Str.ofString c) = some (.ref (cA K c))
  ex : ∃ (f : Addr) (fd : FuncData) (ps : List Str), Mk K (cA K c) f ∧ FnOk P w K mg base (L2N.CX P w) l f fd ps (spS ⟨K, []⟩ n r) ∧ Binds K fd ps []
def isNon : T → Bool
  | .f (.a .non) => true
  | _ => false
theorem isNon_ok {t : T} (h : isNon t = true) : t = .f (.a .non) := by
  unfold isNon at h
  split at h
  · rfl
  · cases h
/-- what a call of the class gives: the first parameter, as __init__ leaves it -/
def mkR : Cr → Rv
  | .ok t ps => (match ps with
    | some u :: _ => if (isNon t && noLk u) = true then .ok u else .no
    | _ => .no)
  | .ex x _ => .ex x
  | .no => .no
def vMake (c : String) (r : List T → Cr) (gs : En → Rvs) : En → Rv := fun en => match gs en with
  | .ok ts => mkR (r (.n .ow (.ins c []) [] :: ts))
  | .ex x => .ex x
  | .no => .no
theorem run_makeS {CX : CXT} {C f : Addr} {fd : FuncData} {ps : List Str} {sp : Sp} {E : L2.St → XK} {pins : List (Addr × Obj)} {σ : L2.St} {H : Hp} {s : Shared} {Q : VK} {us : List Value} {vs : List V} (M : Mk X.K C f) (F : FnOk X.prog X.w X.K X.mg X.base CX l f fd ps sp) (hr : Room (l + 1) X.A) (hb : Binds X.K fd ps [])
    (hx : PassesAt CX X σ (E σ)) (I : Inv X pins σ H s) (r : Vals vs us)
    (h : ∀ x dx, H x = none → H dx = none → dx ≠ x → sp (.ref x :: vs) (upd (upd H dx (.own x)) x (.ins C dx [])) (fun v H2 => v = .non ∧ Q (.ref x) H2) (E σ)) :
    wpAny (model X.prog X.w) X.A (call (.ref C) us) (EP X pins σ Q) X.xe s := by
  have hq := h (s.heap.objs.size + 1) s.heap.objs.size (I.hok.fresh (Nat.le_succ _)) (I.hok.fresh (Nat.le_refl _)) (Nat.ne_of_lt (Nat.lt_succ_self _))
  have I2 := Inv.made (C := C) I
  have r2 : Vals (V.ref (s.heap.objs.size + 1) :: vs) (Value.ref (s.heap.objs.size + 1) :: us) := .cons rfl r
  have hl : (Value.ref (s.heap.objs.size + 1) :: us ++ []).length = ps.length := by
    rw [List.append_nil]
    have e := r2.length
    rw [F.len _ _ _ _ hq] at e
    exact e.symm
  have b := hb _ (Value.ref (s.heap.objs.size + 1) :: us) I2.kIn hl
  rw [List.append_nil] at b
  refine wpAny_call (L2.make_map (f := f) I.kIn M.makes M.init (beq_iff_eq.mp M.fn) (codeAny_mono (F.run _ X.stack _ _ ⟨Value.ref (s.heap.objs.size + 1) :: us, []⟩ (Value.ref (s.heap.objs.size + 1) :: us) _ _ (E σ) (hr.make C us [])
    (I2.env0.make C us []) b r2 hq) fun r s' hq' => ?_))
  cases r with
  | error e => exact hx pins _ _ e s' I2 hq'
  | ok fl =>
    cases fl with
    | ret u =>
      obtain ⟨v, H', I3, rv, ev, q3⟩ := I2.after hq'
      subst ev
      exact ⟨rv, ⟨V.ref (s.heap.objs.size + 1), H', I3, rfl, q3⟩⟩
    | next => exact False.elim hq'
    | brk => exact False.elim hq'
    | cont => exact False.elim hq'
theorem make_fin {cn : String} {r : List T → Cr} {W : WX} {σ : L2.St} {Q : VK} {F L H F1 H1 : Hp} {A B1 : Fp} {en : En} {ts : List T} {vs : List V} {x dx : Addr} (S : Stk K F L H σ en A) (p1 : Pur F H F1 H1) (r1 : Reps K F1 (vw L H1 A) H1 ts vs B1) (b1 : ∀ p, B1 p → H p = none) (c1 : ∀ p, B1 p → F1 p = none) (hl : ts.length + 1 = n)
    (hx : H1 x = none) (hd : H1 dx = none) (nd : dx ≠ x) (q : match mkR (r (.n .ow (.ins cn []) [] :: ts)) with
    | .ok t => ∀ v F' H' B, Pur F H F' H' → Rep K F' (vw L H' A) H' t v B → (∀ p, B p → H p = none) → (∀ p, B p → F' p = none) → Q v H'
    | .ex x => ∀ cls d F' H', Pur F H F' H' → ExRep K F' cls d x → W cls d σ H'
    | .no => False) : spS K n r (.ref x :: vs) (upd (upd H1 dx (.own x)) x (.ins (cA K.K cn) dx [])) (fun v H2 => v = .non ∧ Q (.ref x) H2) fun cls d H' => W cls d σ H' := by
  have S1 := S.pur p1
  have fresh : ∀ a, B1 a → ¬ A a := fun a z w => S.sl.dom a w (b1 a z)
  have hL : ∀ a, B1 a → vw L H1 A a = none := fun a z => by
    rw [vw_out (fresh a z)]
    exact S.sL.free (b1 a z)
  have d1 := Reps.dom ts vs B1 r1
  have nx : ∀ a, H1 a ≠ none → a ≠ x := fun a z e => z (e ▸ hx)
  have ndx : ∀ a, H1 a ≠ none → a ≠ dx := fun a z e => z (e ▸ hd)
  have up : ∀ a, H1 a ≠ none → upd (upd H1 dx (.own x)) x (.ins (cA K.K cn) dx []) a = H1 a := fun a z => by rw [upd_ne (nx a z), upd_ne (ndx a z)]
  have same2 : Same H1 (upd (upd H1 dx (.own x)) x (.ins (cA K.K cn) dx [])) := fun a o e => by rw [up a (by rw [e]; exact fun z => by cases z)]; exact e
  have xF : F1 x = none := S1.sF.free hx
  have xA : ¬ A x := fun z => S.sl.dom x z (p1.h.free hx)
  have xL : vw L H1 A x = none := by
    rw [vw_out xA]
    exact S.sL.free (p1.h.free hx)
  have rr := Reps.keep (Le.refl F1) (Le.refl (vw L H1 A)) ts vs B1 (fun a z => up a (d1 a z)) r1
  have r0 : Rep K F1 (vw L H1 A) (upd (upd H1 dx (.own x)) x (.ins (cA K.K cn) dx [])) (.n .ow (.ins cn []) []) (.ref x) (fo x) := by
    unfold Rep
    exact ⟨x, [], fe, rfl, ⟨rfl, dx, upd_same⟩, fun z => z, fu_e.symm, Reps.nil⟩
  have rall : Reps K F1 (vw L H1 A) (upd (upd H1 dx (.own x)) x (.ins (cA K.K cn) dx [])) (.n .ow (.ins cn []) [] :: ts) (.ref x :: vs) (fu (fo x) B1) := by
    unfold Reps
    exact ⟨_, vs, fo x, B1, rfl, rfl, fun a z w => nx a (d1 a w) z, r0, rr⟩
  refine ⟨by rw [← Reps.length rall]; exact hl, F1, vw L H1 A, fu (fo x) B1, _, ⟨Slots.of_reps rall, S1.sF.trans same2, (vw_same S1.sL).trans same2, fun a z => z.elim (fun z => by rw [show a = x from z]; exact xF) (c1 a), fun a z => z.elim (fun z => by rw [show a = x from z]; exact xL) (hL a)⟩, ?_⟩
  have pur : ∀ {F' H' : Hp} {C : Fp}, Step F1 (upd (upd H1 dx (.own x)) x (.ins (cA K.K cn) dx [])) (fu (fo x) B1) F' H' C → Pur F H F' H' := fun {F' H' C} st => ⟨fun a o e => st.fr a o (same2 a o (p1.h a o e)) fun z => z.elim (fun z => by rw [show a = x from z] at e; rw [p1.h x o e] at hx; cases hx) fun z => (by rw [b1 a z] at e; cases e), p1.f.trans st.fx, fun a e n => by
    by_cases z : F1 a = none
    · rcases st.fg a z n with (y | y) | y
      · rw [show a = x from y]; exact p1.h.free hx
      · exact b1 a y
      · exact p1.h.free (same2.free y)
    · exact p1.g a e z, st.sF⟩
  cases e2 : r (.n .ow (.ins cn []) [] :: ts) with
  | no =>
    rw [e2] at q
    exact q
  | ex y ps =>
    rw [e2] at q
    intro cls d F' H' A' S' er st
    exact q cls d F' H' (pur st) er
  | ok t ps =>
    rw [e2] at q
    unfold mkR at q
    dsimp only at q
    intro v F' H' A' B S' rp nl dj h1 h2 st
    cases ps with
    | nil => exact q.elim
    | cons o ps =>
      cases o with
      | none => exact q.elim
      | some u =>
        dsimp only at q
        by_cases hc : (isNon t && noLk u) = true
        · rw [if_pos hc] at q
          obtain ⟨c2, c3⟩ := and2 hc
          have et := isNon_ok c2
          subst et
          obtain ⟨A1, A2, rfl, _, s1, _⟩ := S'.sl
          have s1' : Rep K F' (vw L H1 A) H' u (.ref x) A1 := s1
          refine ⟨rp.flat.1, q (.ref x) F' H' A1 (pur st) (Rep.keepN (Le.refl _) u _ A1 c3 (fun _ _ => rfl) s1') (fun a z => ?_) fun a z => S'.nF a (.inl z)⟩
          rcases st.ow a (.inl (.inl z)) with (y | y) | y
          · rw [show a = x from y]; exact p1.h.free hx
          · exact b1 a y
          · exact p1.h.free (same2.free y)
        · rw [if_neg hc] at q
          exact q.elim
theorem VE.make {cn : String} {r : List T → Cr} (C : Cxt k X W) (p0 : W.p = []) (M : Iok X.prog X.w X.K X.mg X.base cn l n r) (hx : x = Str.ofString cn) (ha : AE X W gs (e :: es)) (hj : l + 1 ≤ k := by decide) (hn : (e :: es).length + 1 = n := by rfl) (hg : Gl X x := by rfl)
    (hdb : (x == ("__debug__" : Str)) = false := by decide) (he : starEach (e :: es) X.env = (false, eval e X.env) :: starEach es X.env := by rfl) (hpl : (backTo pos (starEach es X.env)).any (·.1) = false := by rfl) : VE X W (vMake cn r gs) (.Call (.Name x p) (e :: es) [] pos) := by
  obtain ⟨f, fd, ps, Mk, F, hb⟩ := M.ex
  obtain ⟨ww, wp⟩ := W
  dsimp only at p0
  subst p0
  subst hx
  refine ⟨fun pins s σ H Q I q => ?_⟩
  refine wpAny_Call_Name_kw (ld_glob I hg M.gm ?_ hdb)
  refine PySem.W.callWith_K (h₀ := X.base) I.ok.mod.kin Mk.kp (thn (ha.pa.run pos pins s σ H (fun vs H1 => ∀ x dx, H1 x = none → H1 dx = none → dx ≠ x → spS (gx X ⟨ww, []⟩) n r (.ref x :: vs) (upd (upd H1 dx (.own x)) x (.ins (cA X.K cn) dx [])) (fun v H2 => v = .non ∧ Q (.ref x) H2) fun cls d H' => ww cls d σ H') I ?_) fun us s1 ⟨vs, H1, I1, rv, q1⟩ => ⟨I1.kIn, run_makeS (E := fun σ cls d H => ww cls d σ H) Mk F (C.room.mono hj) hb (L2N.passAt C.tk σ) I1 rv q1⟩) he hpl
  obtain ⟨F0, L, A, en, S, q⟩ := q
  refine ⟨F0, L, A, en, S, ?_⟩
  unfold vMake at q
  cases e1 : gs en with
  | no =>
    rw [e1] at q
    exact q
  | ex y =>
    rw [e1] at q
    exact q
  | ok ts =>
    rw [e1] at q
    intro vs F1 H1 B1 p1 r1 b1 c1 x dx hx hd nd
    exact make_fin (K := gx X ⟨ww, []⟩) S p1 r1 b1 c1 (by rw [ha.len en ts e1, ← hn]) hx hd nd q
end
end DT
/-! Data trees, part 18: pop, instances' types, ranges with a step, written tuples. -/
namespace DT
open PySem L2
variable {K : Gx}

/-! ### x.pop() -/
theorem Reps.last {F L H : Hp} : ∀ {ts : List T} {vs : List V} {A : Fp} {u : T}, Reps K F L H ts vs A → ts.getLast? = some u → ∃ v A1 A2, Reps K F L H ts.dropLast vs.dropLast A1 ∧ vs[vs.length - 1]? = some v ∧ Rep K F L H u v A2 ∧ A = fu A1 A2 ∧ Dj A1 A2
  | [], vs, A, u, h, e => by cases e
  | [t], vs, A, u, h, e => by
    obtain rfl : t = u := Option.some.inj e
    unfold Reps at h
    obtain ⟨v, ws, A1, A2, rfl, rfl, c, d, h2⟩ := h
    unfold Reps at h2
    obtain ⟨rfl, rfl⟩ := h2
    exact ⟨v, fe, A1, Reps.nil, rfl, d, fu_comm, fun p z => z.elim⟩
  | t :: t2 :: ts, vs, A, u, h, e => by
    have h0 := h
    unfold Reps at h
    obtain ⟨v, ws, A1, A2, rfl, rfl, c, d, h2⟩ := h
    obtain ⟨x, B1, B2, k1, k2, k3, rfl, k5⟩ := Reps.last h2 (u := u) (by rw [List.getLast?_cons_cons] at e; exact e)
    have hl := Reps.length h2
    cases ws with
    | nil => cases hl
    | cons w ws =>
      refine ⟨x, fu A1 B1, B2, ?_, ?_, k3, fu_assoc.symm, fun p z y => z.elim (fun z => c p z (.inr y)) fun z => k5 p z y⟩
      · show Reps K F L H (t :: (t2 :: ts).dropLast) (v :: (w :: ws).dropLast) _
        unfold Reps
        exact ⟨v, _, A1, B1, rfl, rfl, fun p z y => c p z (.inl y), d, k1⟩
      · simpa using k2
def olst : Option (Option T) → Option (List T)
  | some (some (.n .ow .lst ts)) => some ts
  | _ => none
theorem olst_ok {o : Option (Option T)} {ts : List T} (h : olst o = some ts) : o = some (some (.n .ow .lst ts)) := by
  unfold olst at h
  split at h
  · cases h
    rfl
  · cases h
def dPop (i : Nat) : En → Rs := fun en => match olst en[i]? with
  | some ts => (match ts.getLast? with
    | some u => .ok u (en.set i (some (.n .ow .lst ts.dropLast)))
    | none => .no)
  | none => .no
section
variable {X : Cx} {W : Wt} {e a b c o : Expr} {es : List Expr} {pos pos' np p apos p2 : Pos} {g g1 g2 : En → Rv} {gs : En → Rvs} {k l n : Nat} {x : Str}
theorem DE.pop (i : Nat) (hN : X.N[i]? = some x := by rfl) (hv : Vis X.env.scope x := by first | exact Or.inl rfl | exact Or.inr (Or.inl rfl) | exact Or.inr (Or.inr rfl)) (hd : (x == ("__debug__" : Str)) = false := by decide)
    (hcd : (x == ("__classdict__" : Str)) = false := by decide) (hbase : attributeBase (.Name x p2) "pop" X.env (eval (.Name x p2) X.env) = eval (.Name x p2) X.env := by rfl) (hline : (apos.endLine == pos.line) = true := by rfl) : DE X W (dPop i) (.Call (.Attribute (.Name x p2) "pop" apos) [] [] pos) :=
  pe_imp (pe_bm0 PySem.F.plainAttrs_list PySem.F.slot_list_pop PySem.F.type_list_pop mt_pop (pe_var hN hv hd hcd) hbase hline) fun σ H Q q => by
    obtain ⟨F, L, A, en, S, q⟩ := q
    unfold dPop at q
    cases e0 : olst en[i]? with
    | none =>
      rw [e0] at q
      exact q.elim
    | some ts =>
      rw [e0] at q
      dsimp only at q
      have e1 := olst_ok e0
      cases e2 : ts.getLast? with
      | none =>
        rw [e2] at q
        exact q.elim
      | some u =>
        rw [e2] at q
        dsimp only at q
        obtain ⟨ov, Ai, Ar, h1, h2, rfl, h4, h5, h6⟩ := Slots.focus S.sl e1
        cases ov with
        | none => exact h2.elim
        | some v =>
          have h2' : Rep (gx X W) F L H (.n .ow .lst ts) v Ai := h2
          unfold Rep at h2'
          obtain ⟨q0, vs, Bi, rfl, hx, hn, rfl, hr⟩ := h2'
          have hx' : H q0 = some (.lst vs) := hx
          obtain ⟨y, A1, A2, k1, k2, k3, rfl, k5⟩ := Reps.last hr e2
          have dm := Reps.dom ts vs (fu A1 A2) hr
          have n1 : ∀ z, A1 z → z ≠ q0 := fun z w y => hn (y ▸ .inl w)
          have n2 : ∀ z, A2 z → z ≠ q0 := fun z w y => hn (y ▸ .inr w)
          have nr : ∀ z, Ar z → z ≠ q0 := fun z w y => h4 q0 (.inl rfl) (y ▸ w)
          have nF : F q0 = none := S.nF q0 (.inl (.inl rfl))
          have nL : L q0 = none := S.nL q0 (.inl (.inl rfl))
          refine ⟨.ref q0, h1, .inl ⟨rfl, vs, SqL.of hx'⟩, q0, vs, y, rfl, rfl, hx', k2, ?_⟩
          have rep : Rep (gx X W) F L (upd H q0 (.lst vs.dropLast)) (.n .ow .lst ts.dropLast) (.ref q0) (fu (fo q0) A1) := by
            unfold Rep
            exact ⟨q0, _, A1, rfl, upd_same, fun z => hn (.inl z), rfl, Reps.keep (Le.refl _) (Le.refl _) _ _ A1 (fun z w => upd_ne (n1 z w)) k1⟩
          have s1 := h6 (F' := F) (L' := L) (H' := upd H q0 (.lst vs.dropLast)) (Le.refl F) (Le.refl L) (fun z w => upd_ne (nr z w)) (some (.ref q0)) (some (.n .ow .lst ts.dropLast)) (fu (fo q0) A1) rep fun z w y => w.elim (fun w => h4 z (.inl w) y) fun w => h4 z (.inr (.inl w)) y
          rw [set_self h1] at s1
          have sF : Same F (upd H q0 (.lst vs.dropLast)) := fun z u e => by rw [upd_ne (ne_of_none e nF)]; exact S.sF z u e
          have sL : Same L (upd H q0 (.lst vs.dropLast)) := fun z u e => by rw [upd_ne (ne_of_none e nL)]; exact S.sL z u e
          have up : ∀ z, fu (fu (fo q0) A1) Ar z → fu (fu (fo q0) (fu A1 A2)) Ar z := fun z w => w.elim (fun w => .inl (w.imp id .inl)) .inr
          refine q y F _ (fu (fu (fo q0) A1) Ar) A2 ⟨s1, sF, sL, fun z w => S.nF z (up z w), fun z w => S.nL z (up z w)⟩ (Rep.keep (Le.refl F) (Le.of (vw_le fun z w => S.nL z (up z w))) u y A2 (fun z w => upd_ne (n2 z w)) k3) (fun z w y => ?_) (fun z w => S.nF z (.inl (.inr (.inr w)))) (fun z w => S.nL z (.inl (.inr (.inr w)))) ?_
          · rcases w with (w | w) | w
            · exact n2 z y w
            · exact k5 z w y
            · exact h4 z (.inr (.inr y)) w
          · refine ⟨fun z o e n => ?_, fun z w => .inl (w.elim (up z) fun w => .inl (.inr (.inr w))), Same.refl F, fun z e n => absurd e n, sF⟩
            have : z ≠ q0 := fun w => n (.inl (.inl w))
            rw [upd_ne this]
            exact e

/-! ### the types of instances -/
def inB' (K : PySem.W.Frag) (c : String) : Bool := clB K c && (decide (PySem.W.findIn K (.ref (cA K c)) "__class__" = some (some (.builtin "object.__class__"))) && (decide (PySem.W.specialIn K (.builtin "object.__class__") "__get__" = some (some (.builtin "getset_descriptor.__get__"))) &&
  (decide (PySem.W.takesIn K (.builtin "object.__class__") = some true) && decide (PySem.W.mroIn K (cA K c) (.type "object") = some true))))
/-- the class of an instance -/
def insC (t : T) : Option String := match kids t with
  | some (.ins c _, _) => some c
  | _ => none
def iiOk (K : PySem.W.Frag) (cds : List Cd) (tb : List (String × Bool)) : Bool := tb.all fun p => inB' K p.1 && decide (PySem.W.kitAny K (.ref (cA K p.1)) (cds.map (cdV K)) = some p.2)
/-- instances by the second table, what else there is by the first -/
def isB2 (tb : List (Cd × Bool)) (ti : List (String × Bool)) (t : T) : Option T := match insC t with
  | some c => (ti.lookup c).map T.b
  | none => isB tb t
theorem insC_ok {F L H H' : Hp} {t : T} {x : V} {A : Fp} {c : String} (sF : Same F H) (sL : Same L H) (r : Rep (gx X W) F L H t x A) (e : insC t = some c) (hx : inB' X.K c = true) (sm : Same H H') : TyA X H' x (.ref (cA X.K c)) := by
  unfold insC at e
  split at e
  · rename_i c' fs ts ek
    cases e
    obtain ⟨p, vs, B, rfl, o, _⟩ := Rep.kids r ek sF sL
    obtain ⟨_, dx, ho⟩ := Ob.up sm o
    obtain ⟨h1, h⟩ := and2 hx
    obtain ⟨h2, h⟩ := and2 h
    obtain ⟨h3, h⟩ := and2 h
    obtain ⟨h4, h5⟩ := and2 h
    exact .inl (.base (.ins ho (clB_ok h1) (of_decide_eq_true h2) (of_decide_eq_true h3) (of_decide_eq_true h4) (of_decide_eq_true h5)))
  · cases e
theorem is_ans2 {cds : List Cd} {tb : List (Cd × Bool)} {ti : List (String × Bool)} (hp : ∀ q ∈ W.p, q ∈ X.pn) (hi : isOk X.K cds tb = true) (hi2 : iiOk X.K cds ti = true) {F L H : Hp} {t u : T} {x : V} {A : Fp} (sF : Same F H) (sL : Same L H) (r : Rep (gx X W) F L H t x A) (e : isB2 tb ti t = some u) :
    ∃ b tv, u = .b b ∧ PySem.W.kitAny X.K tv (cds.map (cdV X.K)) = some b ∧ ∀ H', Same H H' → TyA X H' x tv := by
  unfold isB2 at e
  split at e
  · rename_i c ec
    cases e2 : ti.lookup c with
    | none =>
      rw [e2] at e
      cases e
    | some b =>
      rw [e2] at e
      cases e
      obtain ⟨h1, h2⟩ := and2 (List.all_eq_true.mp hi2 (c, b) (lookup_in e2))
      exact ⟨b, _, rfl, of_decide_eq_true h2, fun H' sm => insC_ok sF sL r ec h1 sm⟩
  · obtain ⟨c, b, ec, rfl, h1, h2⟩ := is_ans hi e
    exact ⟨b, _, rfl, h1, fun H' sm => tyT_ok hp sF sL r ec h2 sm⟩
theorem VE.is1' {cd : Cd} {tb : List (Cd × Bool)} {ti : List (String × Bool)} (hp : ∀ q ∈ W.p, q ∈ X.pn) (hi : isOk X.K [cd] tb = true) (hi2 : iiOk X.K [cd] ti = true) (hm : X.mg "isinstance" = none) (h : VE X W g a) (hc : PE X c (tC (cdW X.K cd))) (hg : Gl X "isinstance" := by rfl)
    (he : starEach [a, c] X.env = (false, eval a X.env) :: starEach [c] X.env := by rfl) (he2 : starEach [c] X.env = (false, eval c X.env) :: starEach [] X.env := by rfl) (hpl : (backTo pos (starEach [c] X.env)).any (·.1) = false := by rfl) : VE X W (v1 (isB2 tb ti) g) (.Call (.Name "isinstance" p) [a, c] [] pos) :=
  pe_imp (pe_callB (call_is1 (c := cd)) hg hm PyProof.Rows.Boot.«isinstance» (pa_cons h (pc_cons hc pc_nil he2) he) (by decide) (by decide) he hpl) fun σ H Q q => v1_ok (r := fun x H Q => rIs1 X cd [x, cdW X.K cd] H Q) (fun F L H x t1 t A1 Q sF sL r1 e q => by
    obtain ⟨b, tv, rfl, h1, h2⟩ := is_ans2 hp hi hi2 sF sL r1 e
    exact ⟨x, _, b, rfl, h2 H (Same.refl H), kitAny_one h1, q _ H fe (Same.refl H) Rep.of_flat fun _ z => z.elim⟩) q
theorem VE.isN' {cds : List Cd} {tb : List (Cd × Bool)} {ti : List (String × Bool)} {x1} {pos2 : Pos} (hp : ∀ q ∈ W.p, q ∈ X.pn) (hi : isOk X.K cds tb = true) (hi2 : iiOk X.K cds ti = true) (hm : X.mg "isinstance" = none) (h : VE X W g a) (hc : PA X es (fun _ H Q => Q (cds.map (cdW X.K)) H)) (hl : cds.length ≤ LINE := by decide) (hg : Gl X "isinstance" := by rfl)
    (he : starEach [a, .Tuple es x1 pos2] X.env = (false, eval a X.env) :: starEach [.Tuple es x1 pos2] X.env := by rfl) (he2 : starEach [.Tuple es x1 pos2] X.env = (false, eval (.Tuple es x1 pos2) X.env) :: starEach [] X.env := by rfl) (hpl : (backTo pos (starEach [.Tuple es x1 pos2] X.env)).any (·.1) = false := by rfl) : VE X W (v1 (isB2 tb ti) g) (.Call (.Name "isinstance" p) [a, .Tuple es x1 pos2] [] pos) :=
  pe_imp (pe_callB (call_isN (cs := cds)) hg hm PyProof.Rows.Boot.«isinstance» (pa_cons h (pa_cons (pe_tup hc) pa_nil he2) he) (by decide) (by decide) he hpl) fun σ H Q q =>
    v1_ok (r := fun x H Q => (cds.map (cdW X.K)).length ≤ sizeLine ∧ ∀ p, H p = none → rIsN X cds [x, .ref p] (upd H p (.tup (cds.map (cdW X.K)))) Q) (fun F L H x t1 t A1 Q sF sL r1 e q => by
      obtain ⟨b, tv, rfl, h1, h2⟩ := is_ans2 hp hi hi2 sF sL r1 e
      refine ⟨by rw [List.length_map]; exact line_le hl, fun p hn => ?_⟩
      have sm : Same H (upd H p (.tup (cds.map (cdW X.K)))) := fun a u e => by rw [upd_ne (ne_of_none e hn)]; exact e
      exact ⟨x, p, _, b, rfl, upd_same, h2 _ sm, h1, q _ _ fe sm Rep.of_flat fun _ z => z.elim⟩) q
end
/-! ### reckoning -/
section
variable {g g1 g2 : En → Rv} {gs : En → Rvs} {en : En}
def poO (i : Nat) (ts : List T) (en : En) : Option T → Rs
  | some u => .ok u (en.set i (some (.n .ow .lst ts.dropLast)))
  | none => .no
def poR (i : Nat) (o : Option (Option T)) (en : En) : Rs := match olst o with
  | some ts => poO i ts en ts.getLast?
  | none => .no
@[simp] theorem dPop_at {i : Nat} : dPop i en = poR i en[i]? en := by
  unfold dPop poR poO
  cases olst en[i]? <;> rfl
@[simp] theorem poR_ow {i : Nat} {ts : List T} : poR i (some (some (.n .ow .lst ts))) en = poO i ts en ts.getLast? := rfl
@[simp] theorem poO_some {i : Nat} {ts : List T} {u : T} : poO i ts en (some u) = .ok u (en.set i (some (.n .ow .lst ts.dropLast))) := rfl
def meR (tb : List (String × (List T → Cr))) (m : Str) (x : Rv) (y : Rvs) : Rv := match x with
  | .ok t => (match mPick tb m t with
    | some r => (match y with
      | .ok ts => (r (t :: ts)).v
      | .ex x => .ex x
      | .no => .no)
    | none => .no)
  | r => r
@[simp] theorem vMeth_at {tb : List (String × (List T → Cr))} {m : Str} : vMeth tb m g gs en = meR tb m (g en) (gs en) := by
  unfold vMeth meR
  cases g en with
  | ok t =>
    first
    | rfl
    | (dsimp only
       cases mPick tb m t with
       | none => rfl
       | some r => cases gs en <;> rfl)
  | _ => rfl
theorem meR_ok {tb : List (String × (List T → Cr))} {m : Str} {t : T} {ts : List T} {r : List T → Cr} (h : mPick tb m t = some r) : meR tb m (.ok t) (.ok ts) = (r (t :: ts)).v := by
  unfold meR
  dsimp only
  rw [h]
def maR (c : String) (r : List T → Cr) : Rvs → Rv
  | .ok ts => mkR (r (.n .ow (.ins c []) [] :: ts))
  | .ex x => .ex x
  | .no => .no
@[simp] theorem vMake_at {c : String} {r : List T → Cr} : vMake c r gs en = maR c r (gs en) := by unfold vMake maR; cases gs en <;> rfl
@[simp] theorem maR_ok {c : String} {r : List T → Cr} {ts : List T} : maR c r (.ok ts) = mkR (r (.n .ow (.ins c []) [] :: ts)) := rfl
def fpR (i : Nat) (cs : List String) (f : Str) (r : Rv) (o : Option (Option T)) (en : En) : So := match r with
  | .ok u => (match o with
    | some (some (.n .ow (.ins c fs) ts)) => if (noLk u = true ∧ cs.contains c = true) ∧ fs.length < 1000 then .nx (en.set i (some (.n .ow (.ins c (fputK fs f)) (fputV fs ts f u)))) else .no
    | _ => .no)
  | .ex x => .ex x en
  | .no => .no
@[simp] theorem sFldP_at {i : Nat} {cs : List String} {f : Str} : sFldP i cs f g en = fpR i cs f (g en) en[i]? en := by unfold sFldP fpR; cases g en <;> rfl
@[simp] theorem fpR_ok {i : Nat} {cs : List String} {f : Str} {u : T} {c : String} {fs : List Str} {ts : List T} : fpR i cs f (.ok u) (some (some (.n .ow (.ins c fs) ts))) en = if (noLk u = true ∧ cs.contains c = true) ∧ fs.length < 1000 then .nx (en.set i (some (.n .ow (.ins c (fputK fs f)) (fputV fs ts f u)))) else .no := rfl
@[simp] theorem fldT_n {cs : List String} {f : Str} {m : Md} {c : String} {fs : List Str} {ts : List T} : fldT cs f (.n m (.ins c fs) ts) = if cs.contains c = true then fget fs ts f else none := rfl
@[simp] theorem fldT_f {cs : List String} {f : Str} {c : String} {fs : List Str} {ds : List D} : fldT cs f (.f (.n (.ins c fs) ds)) = if cs.contains c = true then fget fs (ds.map T.f) f else none := rfl
@[simp] theorem insC_n {m : Md} {c : String} {fs : List Str} {ts : List T} : insC (.n m (.ins c fs) ts) = some c := rfl
@[simp] theorem insC_f {c : String} {fs : List Str} {ds : List D} : insC (.f (.n (.ins c fs) ds)) = some c := rfl
end
end DT
/-! Data trees, part 19: readings of == over lists, lists of whole numbers. -/
namespace DT
open PySem L2
mutual
/-- data that == tells apart as equality does, no deeper than n: no truth values, no dicts -/
def pl : D → Nat → Bool
  | .a (.bl _), _ => false
  | .a .non, _ => true
  | .a (.int _), _ => true
  | .a (.str x), _ => PyData.strOk x
  | .n .lst ds, n => decide (0 < n) && pls ds (n - 1)
  | .n .tup ds, n => decide (0 < n) && pls ds (n - 1)
  | .n _ _, _ => false
def pls : List D → Nat → Bool
  | [], _ => true
  | d :: ds, n => pl d n && pls ds n
end
mutual
theorem pl_can : ∀ (d : D) (n : Nat), pl d n = true → (toPy d).canLay0 = true ∧ (toPy d).depth ≤ n
  | .a .non, n, _ => ⟨rfl, Nat.zero_le _⟩
  | .a (.bl _), n, h => by unfold pl at h; cases h
  | .a (.int _), n, _ => ⟨rfl, Nat.zero_le _⟩
  | .a (.str x), n, h => by
    unfold pl at h
    refine ⟨?_, Nat.zero_le _⟩
    simpa [toPy, PyData.canLay0] using h
  | .n .lst ds, n, h => by
    unfold pl at h
    rw [Bool.and_eq_true] at h
    obtain ⟨a, b⟩ := pls_can ds (n - 1) h.2
    have := of_decide_eq_true h.1
    refine ⟨by simpa [toPy, PyData.canLay0] using a, ?_⟩
    simp only [toPy, PyData.depth]
    omega
  | .n .tup ds, n, h => by
    unfold pl at h
    rw [Bool.and_eq_true] at h
    obtain ⟨a, b⟩ := pls_can ds (n - 1) h.2
    have := of_decide_eq_true h.1
    refine ⟨by simpa [toPy, PyData.canLay0] using a, ?_⟩
    simp only [toPy, PyData.depth]
    omega
  | .n .scr ds, n, h => by unfold pl at h; cases h
  | .n (.dic _) ds, n, h => by unfold pl at h; cases h
  | .n (.ins _ _) ds, n, h => by unfold pl at h; cases h
  | .n (.exc _ _) ds, n, h => by unfold pl at h; cases h
theorem pls_can : ∀ (ds : List D) (n : Nat), pls ds n = true → PyData.canLayAll0 (toPys ds) = true ∧ PyData.depthAll (toPys ds) ≤ n
  | [], n, _ => ⟨rfl, Nat.zero_le _⟩
  | d :: ds, n, h => by
    unfold pls at h
    rw [Bool.and_eq_true] at h
    obtain ⟨a, b⟩ := pl_can d n h.1
    obtain ⟨c, e⟩ := pls_can ds n h.2
    refine ⟨by simp only [toPys, PyData.canLayAll0, a, c, Bool.and_self], ?_⟩
    simp only [toPys, PyData.depthAll]
    omega
end
theorem shD_pl {d : D} (h : pl d 60 = true) : shD d = true := by
  obtain ⟨a, b⟩ := pl_can d 60 h
  unfold shD SeqAt.shaped
  rw [Bool.and_eq_true]
  exact ⟨a, decide_eq_true (by omega)⟩
mutual
theorem eqD_pl : ∀ (d e : D) (n m : Nat), pl d n = true → pl e m = true → (eqD d e = true ↔ d = e)
  | .a x, .a y, n, m, h, k => by
    unfold eqD
    cases x <;> cases y <;> first | (unfold pl at h; cases h; done) | (unfold pl at k; cases k; done) | simp [toPy, PyData.eqv]
  | .a x, .n k2 es, n, m, h, k => by
    unfold eqD
    cases x <;> cases k2 <;> first | (unfold pl at h; cases h; done) | (unfold pl at k; cases k; done) | simp [toPy, PyData.eqv]
  | .n k1 ds, .a y, n, m, h, k => by
    unfold eqD
    cases k1 <;> cases y <;> first | (unfold pl at h; cases h; done) | (unfold pl at k; cases k; done) | simp [toPy, PyData.eqv]
  | .n .lst ds, .n .lst es, n, m, h, k => by
    unfold pl at h k
    rw [Bool.and_eq_true] at h k
    have := eqDs_pl ds es _ _ h.2 k.2
    unfold eqD
    simpa [toPy, PyData.eqv] using this
  | .n .tup ds, .n .tup es, n, m, h, k => by
    unfold pl at h k
    rw [Bool.and_eq_true] at h k
    have := eqDs_pl ds es _ _ h.2 k.2
    unfold eqD
    simpa [toPy, PyData.eqv] using this
  | .n .lst ds, .n .tup es, n, m, h, k => by unfold eqD; simp [toPy, PyData.eqv]
  | .n .tup ds, .n .lst es, n, m, h, k => by unfold eqD; simp [toPy, PyData.eqv]
  | .n .scr ds, .n _ es, n, m, h, k => by unfold pl at h; cases h
  | .n (.dic _) ds, .n _ es, n, m, h, k => by unfold pl at h; cases h
  | .n (.ins _ _) ds, .n _ es, n, m, h, k => by unfold pl at h; cases h
  | .n (.exc _ _) ds, .n _ es, n, m, h, k => by unfold pl at h; cases h
  | .n .lst ds, .n .scr es, n, m, h, k => by unfold pl at k; cases k
  | .n .lst ds, .n (.dic _) es, n, m, h, k => by unfold pl at k; cases k
  | .n .lst ds, .n (.ins _ _) es, n, m, h, k => by unfold pl at k; cases k
  | .n .lst ds, .n (.exc _ _) es, n, m, h, k => by unfold pl at k; cases k
  | .n .tup ds, .n .scr es, n, m, h, k => by unfold pl at k; cases k
  | .n .tup ds, .n (.dic _) es, n, m, h, k => by unfold pl at k; cases k
  | .n .tup ds, .n (.ins _ _) es, n, m, h, k => by unfold pl at k; cases k
  | .n .tup ds, .n (.exc _ _) es, n, m, h, k => by unfold pl at k; cases k
theorem eqDs_pl : ∀ (ds es : List D) (n m : Nat), pls ds n = true → pls es m = true → (PyData.eqvAll (toPys ds) (toPys es) = true ↔ ds = es)
  | [], [], n, m, h, k => by simp [toPys, PyData.eqvAll]
  | [], _ :: _, n, m, h, k => by simp [toPys, PyData.eqvAll]
  | _ :: _, [], n, m, h, k => by simp [toPys, PyData.eqvAll]
  | d :: ds, e :: es, n, m, h, k => by
    unfold pls at h k
    rw [Bool.and_eq_true] at h k
    have a := eqD_pl d e n m h.1 k.1
    have b := eqDs_pl ds es n m h.2 k.2
    unfold eqD at a
    simp only [toPys, PyData.eqvAll, Bool.and_eq_true, a, b, List.cons.injEq]
end
/-- one of the two is no flat value -/
def nofl : T → Bool
  | .f (.a _) => false
  | _ => true
theorem eqF_no {t u : T} (h : nofl t = true ∨ nofl u = true) : eqF t u = none := by
  unfold eqF
  split
  · rcases h with h | h <;> cases h
  · rfl
theorem eqT_yes {t u : T} (h : nofl t = true ∨ nofl u = true) (p : pl (era t) 60 = true) (e : era t = era u) : eqT t u = some (.f (.a (.bl true))) := by
  have q : pl (era u) 60 = true := e ▸ p
  unfold eqT
  rw [eqF_no h, shD_pl p, shD_pl q, (eqD_pl _ _ _ _ p q).mpr e]
  rfl
theorem eqT_not {t u : T} (h : nofl t = true ∨ nofl u = true) (p : pl (era t) 60 = true) (q : pl (era u) 60 = true) (e : era t ≠ era u) : eqT t u = some (.f (.a (.bl false))) := by
  unfold eqT
  rw [eqF_no h, shD_pl p, shD_pl q, Bool.eq_false_iff.mpr fun z => e ((eqD_pl _ _ _ _ p q).mp z)]
  rfl
theorem neT_yes {t u : T} (h : nofl t = true ∨ nofl u = true) (p : pl (era t) 60 = true) (e : era t = era u) : neT t u = some (.f (.a (.bl false))) := by
  have q : pl (era u) 60 = true := e ▸ p
  unfold neT
  rw [eqF_no h, shD_pl p, shD_pl q, (eqD_pl _ _ _ _ p q).mpr e]
  rfl
theorem neT_not {t u : T} (h : nofl t = true ∨ nofl u = true) (p : pl (era t) 60 = true) (q : pl (era u) 60 = true) (e : era t ≠ era u) : neT t u = some (.f (.a (.bl true))) := by
  unfold neT
  rw [eqF_no h, shD_pl p, shD_pl q, Bool.eq_false_iff.mpr fun z => e ((eqD_pl _ _ _ _ p q).mp z)]
  rfl
/-- a flat whole number -/
abbrev ia (i : Int) : D := .a (.int i)
theorem pls_map {α : Type} {h : α → D} {n : Nat} : ∀ {xs : List α}, (∀ x ∈ xs, pl (h x) n = true) → pls (xs.map h) n = true
  | [], _ => rfl
  | x :: xs, k => by
    simp only [List.map_cons, pls, Bool.and_eq_true]
    exact ⟨k x List.mem_cons_self, pls_map fun y hy => k y (List.mem_cons_of_mem _ hy)⟩
theorem pls_ia {xs : List Int} {n : Nat} : pls (xs.map ia) n = true := pls_map fun _ _ => by simp [pl]
@[simp] theorem eras_I {xs : List Int} : eras (xs.map I) = xs.map ia := by
  rw [eras_map, List.map_map]; rfl
theorem eras_T {α : Type} {h : α → D} {xs : List α} : eras (xs.map fun a => T.f (h a)) = xs.map h := by
  rw [eras_map, List.map_map]; rfl
theorem ia_inj {xs ys : List Int} : xs.map ia = ys.map ia ↔ xs = ys :=
  ⟨fun h => (List.map_inj_right (fun a b e => by simpa [ia] using e)).mp h, fun h => by rw [h]⟩
@[simp] theorem eqT_I {m m' : Md} {xs ys : List Int} : eqT (.n m .lst (xs.map I)) (.n m' .lst (ys.map I)) = some (.f (.a (.bl (decide (xs = ys))))) := by
  by_cases h : xs = ys
  · rw [eqT_yes (.inl rfl) (by simp [era, eras_I, pl, pls_ia]) (by rw [h]; rfl), decide_eq_true h]
  · rw [eqT_not (.inl rfl) (by simp [era, eras_I, pl, pls_ia]) (by simp [era, eras_I, pl, pls_ia]) (by simp only [era, eras_I]; intro z; injection z with _ z; exact h (ia_inj.mp z)), decide_eq_false h]
@[simp] theorem neT_I {m m' : Md} {xs ys : List Int} : neT (.n m .lst (xs.map I)) (.n m' .lst (ys.map I)) = some (.f (.a (.bl (!decide (xs = ys))))) := by
  by_cases h : xs = ys
  · rw [neT_yes (.inl rfl) (by simp [era, eras_I, pl, pls_ia]) (by rw [h]; rfl), decide_eq_true h]; rfl
  · rw [neT_not (.inl rfl) (by simp [era, eras_I, pl, pls_ia]) (by simp [era, eras_I, pl, pls_ia]) (by simp only [era, eras_I]; intro z; injection z with _ z; exact h (ia_inj.mp z)), decide_eq_false h]; rfl
@[simp] theorem eqT_If {m : Md} {xs ys : List Int} : eqT (.n m .lst (xs.map I)) (.f (.n .lst (ys.map ia))) = some (.f (.a (.bl (decide (xs = ys))))) := by
  have := eqT_I (m := m) (m' := m) (xs := xs) (ys := ys)
  unfold eqT at this ⊢
  rw [eqF_no (.inl rfl)] at this ⊢
  simpa only [era, eras_I] using this
@[simp] theorem eqT_fI {m : Md} {xs ys : List Int} : eqT (.f (.n .lst (xs.map ia))) (.n m .lst (ys.map I)) = some (.f (.a (.bl (decide (xs = ys))))) := by
  have := eqT_I (m := m) (m' := m) (xs := xs) (ys := ys)
  unfold eqT at this ⊢
  rw [eqF_no (.inl rfl)] at this ⊢
  simpa only [era, eras_I] using this
@[simp] theorem eqT_ff {xs ys : List Int} : eqT (.f (.n .lst (xs.map ia))) (.f (.n .lst (ys.map ia))) = some (.f (.a (.bl (decide (xs = ys))))) := by
  by_cases h : xs = ys
  · rw [eqT_yes (.inl rfl) (by simp [era, pl, pls_ia]) (by rw [h]), decide_eq_true h]
  · rw [eqT_not (.inl rfl) (by simp [era, pl, pls_ia]) (by simp [era, pl, pls_ia]) (by simp only [era]; intro z; injection z with _ z; exact h (ia_inj.mp z)), decide_eq_false h]
@[simp] theorem neT_If {m : Md} {xs ys : List Int} : neT (.n m .lst (xs.map I)) (.f (.n .lst (ys.map ia))) = some (.f (.a (.bl (!decide (xs = ys))))) := by
  have := neT_I (m := m) (m' := m) (xs := xs) (ys := ys)
  unfold neT at this ⊢
  rw [eqF_no (.inl rfl)] at this ⊢
  simpa only [era, eras_I] using this
@[simp] theorem neT_fI {m : Md} {xs ys : List Int} : neT (.f (.n .lst (xs.map ia))) (.n m .lst (ys.map I)) = some (.f (.a (.bl (!decide (xs = ys))))) := by
  have := neT_I (m := m) (m' := m) (xs := xs) (ys := ys)
  unfold neT at this ⊢
  rw [eqF_no (.inl rfl)] at this ⊢
  simpa only [era, eras_I] using this
@[simp] theorem neT_ff {xs ys : List Int} : neT (.f (.n .lst (xs.map ia))) (.f (.n .lst (ys.map ia))) = some (.f (.a (.bl (!decide (xs = ys))))) := by
  by_cases h : xs = ys
  · rw [neT_yes (.inl rfl) (by simp [era, pl, pls_ia]) (by rw [h]), decide_eq_true h]; rfl
  · rw [neT_not (.inl rfl) (by simp [era, pl, pls_ia]) (by simp [era, pl, pls_ia]) (by simp only [era]; intro z; injection z with _ z; exact h (ia_inj.mp z)), decide_eq_false h]; rfl
@[simp] theorem sumT_I {m : Md} {xs : List Int} : sumT (.n m .lst (xs.map I)) = some (I xs.sum) := by
  unfold sumT
  rw [show lstT (.n m .lst (xs.map I)) = some (xs.map I) from rfl, Option.bind_some, intsT_map]
  rfl
@[simp] theorem maxlT_I {m : Md} {xs : List Int} : maxlT (.n m .lst (xs.map I)) = (maxI xs).map I := by
  unfold maxlT
  rw [show lstT (.n m .lst (xs.map I)) = some (xs.map I) from rfl, Option.bind_some, intsT_map]
  rfl
theorem idx_I {m : Md} {xs : List Int} {k : Nat} (h : k < xs.length) : idxT (.n m .lst (xs.map I)) (.f (.a (.int (k : Int)))) = some (I (xs.getD k 0)) := by
  rw [idx_l (by simpa using h)]
  simp [List.getD_eq_getElem?_getD, h]
theorem idx_Ii {m : Md} {xs : List Int} {i : Int} (h0 : 0 ≤ i) (h : i < xs.length) : idxT (.n m .lst (xs.map I)) (.f (.a (.int i))) = some (I (xs.getD i.toNat 0)) := by
  obtain ⟨k, rfl⟩ := Int.eq_ofNat_of_zero_le h0
  exact idx_I (by omega)
@[simp] theorem isB_l {tb : List (Cd × Bool)} {m : Md} {ts : List T} : isB tb (.n m .lst ts) = (tb.lookup (.ty "list")).map T.b := rfl
@[simp] theorem isB_lf {tb : List (Cd × Bool)} {ds : List D} : isB tb (.f (.n .lst ds)) = (tb.lookup (.ty "list")).map T.b := rfl
@[simp] theorem isB_t {tb : List (Cd × Bool)} {m : Md} {ts : List T} : isB tb (.n m .tup ts) = (tb.lookup (.ty "tuple")).map T.b := rfl
@[simp] theorem isB_tf {tb : List (Cd × Bool)} {ds : List D} : isB tb (.f (.n .tup ds)) = (tb.lookup (.ty "tuple")).map T.b := rfl
@[simp] theorem isB2_f {tb : List (Cd × Bool)} {ti : List (String × Bool)} {x : Fl} : isB2 tb ti (.f (.a x)) = isB tb (.f (.a x)) := rfl
@[simp] theorem isB2_l {tb : List (Cd × Bool)} {ti : List (String × Bool)} {m : Md} {ts : List T} : isB2 tb ti (.n m .lst ts) = isB tb (.n m .lst ts) := rfl
@[simp] theorem isB2_i {tb : List (Cd × Bool)} {ti : List (String × Bool)} {c : String} {fs : List Str} {ds : List D} : isB2 tb ti (.f (.n (.ins c fs) ds)) = (ti.lookup c).map T.b := rfl
@[simp] theorem isB2_n {tb : List (Cd × Bool)} {ti : List (String × Bool)} {m : Md} {c : String} {fs : List Str} {ts : List T} : isB2 tb ti (.n m (.ins c fs) ts) = (ti.lookup c).map T.b := rfl
@[simp] theorem noLk_lk {k : Kd} {ts : List T} : noLk (.n .lk k ts) = false := rfl
@[simp] theorem listT_I {m : Md} {xs : List Int} : listT (.n m .lst (xs.map I)) = some (.n .ow .lst (xs.map I)) := rfl
@[simp] theorem listT_If {xs : List Int} : listT (.f (.n .lst (xs.map ia))) = some (.n .ow .lst (xs.map I)) := by
  show some (T.n .ow .lst ((xs.map ia).map T.f)) = _
  rw [map_I]
def hid : Option T → Option T
  | some (.n .ow _ _) => none
  | o => o
theorem hideO_cons {o : Option T} {r : En} : hideO (o :: r) = hid o :: hideO r := by
  cases o with
  | none => rfl
  | some t => cases t with
    | f d => rfl
    | n m k ts => cases m <;> rfl
@[simp] theorem hid_f {d : D} : hid (some (.f d)) = some (.f d) := rfl
@[simp] theorem hid_lk {k : Kd} {ts : List T} : hid (some (.n .lk k ts)) = some (.n .lk k ts) := rfl
@[simp] theorem noLks_II {xs : List Int} : noLks (xs.map I) = true := noLks_I (h := ia)
@[simp] theorem locks_II {xs : List Int} : locks (xs.map I) = xs.map I := by rw [map_I, locks_f]
theorem any_ia {i : Int} : ∀ {xs : List Int}, ((xs.map ia).any fun e => eqD e (ia i)) = decide (i ∈ xs)
  | [] => rfl
  | x :: xs => by
    rw [List.map_cons, List.any_cons, any_ia]
    have h : eqD (ia x) (ia i) = decide (x = i) := by
      rw [Bool.eq_iff_iff, eqD_pl _ _ 0 0 rfl rfl]
      simp
    rw [h, Bool.eq_iff_iff]
    simp only [Bool.or_eq_true, decide_eq_true_eq, List.mem_cons]
    exact ⟨fun h => h.imp Eq.symm id, fun h => h.imp Eq.symm id⟩
@[simp] theorem inT_I {i : Int} {m : Md} {xs : List Int} : inT (.f (.a (.int i))) (.n m .lst (xs.map I)) = some (.f (.a (.bl (decide (i ∈ xs))))) := by
  have h1 : (shD (era (T.f (.a (.int i)))) && shD (.n .lst (eras (xs.map I)))) = true := by
    rw [Bool.and_eq_true]
    exact ⟨shD_pl (by simp [pl]), shD_pl (by simp [eras_I, pl, pls_ia])⟩
  have h2 : inB (.f (.a (.int i))) (.n m .lst (xs.map I)) = some (decide (i ∈ xs)) := by
    show (if (shD (era (T.f (.a (.int i)))) && shD (.n .lst (eras (xs.map I)))) = true then some ((eras (xs.map I)).any fun e => eqD e (era (T.f (.a (.int i))))) else none) = _
    rw [if_pos h1, eras_I]
    exact congrArg some any_ia
  unfold inT
  rw [h2]
  rfl
@[simp] theorem inT_If {i : Int} {xs : List Int} : inT (.f (.a (.int i))) (.f (.n .lst (xs.map ia))) = some (.f (.a (.bl (decide (i ∈ xs))))) := by
  have h1 : (shD (era (T.f (.a (.int i)))) && shD (.n .lst (eras ((xs.map ia).map T.f)))) = true := by
    rw [Bool.and_eq_true]
    exact ⟨shD_pl (by simp [pl]), shD_pl (by rw [eras_mapf]; simp [pl, pls_ia])⟩
  have h2 : inB (.f (.a (.int i))) (.f (.n .lst (xs.map ia))) = some (decide (i ∈ xs)) := by
    show (if (shD (era (T.f (.a (.int i)))) && shD (.n .lst (eras ((xs.map ia).map T.f)))) = true then some ((eras ((xs.map ia).map T.f)).any fun e => eqD e (era (T.f (.a (.int i))))) else none) = _
    rw [if_pos h1, eras_mapf]
    exact congrArg some any_ia
  unfold inT
  rw [h2]
  rfl
end DT
/-! Data trees, part 20: readings of filters, last elements, single turns. -/
namespace DT
open PySem L2
theorem lcS_filter {α : Type} {vs : List Nat} {b : T → En → Option En} {p : En → Rb} {g : En → Rv} {en : En} {inj : α → T} {q : α → Bool} {φ : α → T} : ∀ {xs : List α}, (∀ a ∈ xs, ∃ e1, b (inj a) (wip en vs) = some e1 ∧ p e1 = .ok (q a) ∧ (q a = true → g e1 = .ok (φ a) ∧ noLk (φ a) = true)) → lcS vs b p g (xs.map inj) en = some ((xs.filter q).map φ)
  | [], _ => rfl
  | a :: xs, h => by
    obtain ⟨e1, h1, h2, h3⟩ := h a List.mem_cons_self
    have h6 := lcS_filter fun u hu => h u (List.mem_cons_of_mem _ hu)
    show lcS vs b p g (inj a :: xs.map inj) en = _
    unfold lcS
    rw [h1]
    dsimp only
    rw [h2]
    cases hq : q a with
    | true =>
      obtain ⟨h4, h5⟩ := h3 hq
      dsimp only
      rw [h4]
      dsimp only
      rw [if_pos h5, h6, List.filter_cons, if_pos hq]
      rfl
    | false =>
      dsimp only
      rw [h6, List.filter_cons, if_neg (by rw [hq]; exact Bool.false_ne_true)]
theorem lp_c {b : T → En → Option En} {s : En → So} {t : T} {ts : List T} {en e1 e2 : En} (h1 : b t en = some e1) (h2 : s e1 = .nx e2) : lp b s (t :: ts) en = lp b s ts e2 := by
  show (match b t en with
    | none => So.no
    | some en1 => (match s en1 with
      | .nx e => lp b s ts e
      | .bk e => .nx e
      | r => r)) = _
  rw [h1]
  dsimp only
  rw [h2]
theorem lp_rt {b : T → En → Option En} {s : En → So} {t u : T} {ts : List T} {en e1 e2 : En} (h1 : b t en = some e1) (h2 : s e1 = .rt u e2) : lp b s (t :: ts) en = .rt u e2 := by
  show (match b t en with
    | none => So.no
    | some en1 => (match s en1 with
      | .nx e => lp b s ts e
      | .bk e => .nx e
      | r => r)) = _
  rw [h1]
  dsimp only
  rw [h2]
@[simp] theorem lp_nil {b : T → En → Option En} {s : En → So} {en : En} : lp b s [] en = .nx en := rfl
theorem ixN_last {n : Nat} : ixN (n + 1) (-1) = some n := by
  unfold ixN
  simp <;> omega
theorem put_last {ts : List T} {x u : T} : putT .lst (ts ++ [x]) (.f (.a (.int (-1)))) u = some (.lst, ts ++ [u]) := by
  show (ixN (ts ++ [x]).length (-1)).map (fun j => (Kd.lst, (ts ++ [x]).set j u)) = _
  rw [List.length_append, List.length_singleton, ixN_last, Option.map_some]
  simp
theorem idx_last {m : Md} {ts : List T} {x : T} : idxT (.n m .lst (ts ++ [x])) (.f (.a (.int (-1)))) = some x := by
  show atI (ts ++ [x]) (-1) = _
  unfold atI
  rw [List.length_append, List.length_singleton, ixN_last, Option.bind_some]
  simp
theorem eqT_nil {m m' : Md} {xs : List Int} : eqT (.n m .lst (xs.map I)) (.n m' .lst []) = some (.f (.a (.bl (decide (xs = []))))) := eqT_I (ys := [])
theorem neT_nil {m m' : Md} {xs : List Int} : neT (.n m .lst (xs.map I)) (.n m' .lst []) = some (.f (.a (.bl (!decide (xs = []))))) := neT_I (ys := [])
/-- the rows of a list, by a reading of each as data -/
theorem locks_T {α : Type} {h : α → D} {xs : List α} : locks (xs.map fun a => T.f (h a)) = xs.map fun a => T.f (h a) := by
  rw [locks_map, List.map_map]
  rfl
theorem sq_T {α : Type} {h : α → D} {m : Md} {xs : List α} : sqA (.ok (.n m .lst (xs.map fun a => T.f (h a)))) = .ok (xs.map fun a => T.f (h a)) := by
  have := sqA_n (m := m) (ds := xs.map h)
  rw [List.map_map] at this
  exact this
theorem eqT_T {α : Type} {h : α → D} {m m' : Md} {xs : List α} (p : ∀ a ∈ xs, pl (h a) 59 = true) : eqT (.n m .lst (xs.map fun a => T.f (h a))) (.n m' .lst (xs.map fun a => T.f (h a))) = some (.f (.a (.bl true))) := by
  refine eqT_yes (.inl rfl) ?_ rfl
  simp only [era_ow, eras_T, pl]
  exact pls_map p
theorem neT_T {α : Type} {h : α → D} {m m' : Md} {xs : List α} (p : ∀ a ∈ xs, pl (h a) 59 = true) : neT (.n m .lst (xs.map fun a => T.f (h a))) (.n m' .lst (xs.map fun a => T.f (h a))) = some (.f (.a (.bl false))) := by
  refine neT_yes (.inl rfl) ?_ rfl
  simp only [era_ow, eras_T, pl]
  exact pls_map p
theorem eqT_Tnil {α : Type} {h : α → D} {m m' : Md} {xs : List α} (p : ∀ a ∈ xs, pl (h a) 59 = true) : eqT (.n m .lst (xs.map fun a => T.f (h a))) (.n m' .lst []) = some (.f (.a (.bl xs.isEmpty))) := by
  cases xs with
  | nil => exact eqT_yes (.inl rfl) rfl rfl
  | cons a xs =>
    refine eqT_not (.inl rfl) ?_ rfl ?_
    · simp only [era_ow, eras_T, pl]
      exact pls_map p
    · intro z
      simp only [era_ow, eras_T, eras_nil, List.map_cons] at z
      injection z with _ z
      cases z
end DT
/-! Data trees, part 21: tuples of the module, ranges with a step, list(range(..)), list(reversed(..)). -/
namespace DT
open PySem L2
/-! ### a tuple of whole numbers of the module -/
def absI : Value → Option Int
  | .int i _ => some i
  | _ => none
def ctB (K : PySem.W.Frag) (c : String) (is : List Int) : Bool := match K.lookup (cA K c) with
  | some o => decide (o.cls = .type "tuple") && (match o.data with
    | .seq its n => decide (its.size ≤ sizeLine) && decide (its.toList.map absI = is.map some)
    | _ => false)
  | none => false
theorem vals_abs : ∀ {us : List Value} {is : List Int}, us.map absI = is.map some → Vals (is.map V.int) us
  | [], [], _ => .nil
  | [], _ :: _, h => by simp at h
  | _ :: _, [], h => by simp at h
  | u :: us, i :: is, h => by
    simp only [List.map_cons, List.cons.injEq] at h
    refine .cons ?_ (vals_abs h.2)
    cases u <;> simp [absI] at h
    rename_i j t
    exact ⟨t, by rw [h.1]⟩
theorem ctB_ok {K : PySem.W.Frag} {c : String} {is : List Int} (h : ctB K c is = true) (H : Hp) : SqT K H (cA K c) (is.map V.int) := by
  unfold ctB at h
  split at h
  · rename_i o ho
    obtain ⟨h1, h2⟩ := and2 h
    split at h2
    · rename_i its n hd
      obtain ⟨h3, h4⟩ := and2 h2
      exact .inr ⟨o, its, n, ho, of_decide_eq_true h1, hd, of_decide_eq_true h3, vals_abs (of_decide_eq_true h4)⟩
    · cases h2
  · cases h
theorem ints_reps {K : Gx} {F : Hp} : ∀ is : List Int, RepDs K F (is.map ia) (is.map V.int)
  | [] => by unfold RepDs; rfl
  | i :: is => by
    simp only [List.map_cons]
    unfold RepDs
    exact ⟨_, _, rfl, by unfold RepD; rfl, ints_reps is⟩
section
variable {X : Cx} {W : Wt} {a b c e tg : Expr} {pos p p2 pos2 : Pos} {g gv : En → Rv} {gs : En → Rvs} {x : Str}
theorem VE.gtup {cn : String} {is : List Int} (hm : X.mg x = some (.ref (cA X.K cn))) (hb : ctB X.K cn is = true) (hg : Gl X x := by rfl) (hd : (x == ("__debug__" : Str)) = false := by decide) : VE X W (vC (.n .tup (is.map ia))) (.Name x pos) :=
  VE.glo (v := .ref (cA X.K cn)) (pe_glob hg hm rfl hd) fun F => by
    unfold RepD
    exact ⟨_, _, rfl, ctB_ok hb F, ints_reps is⟩
end
/-! ### range with a step -/
def rgC (ts : List T) : Option (List T) := match ts with
  | [.f (.a (.int i)), .f (.a (.int j)), .f (.a (.int c))] => if ((-(2 ^ 61) ≤ i ∧ i < 2 ^ 61) ∧ -(2 ^ 61) ≤ j ∧ j < 2 ^ 61) ∧ 0 < c ∧ c < 1073741824 then some ((List.range (if i < j then ((j - i - 1) / c + 1).toNat else 0)).map fun k : Nat => T.i (i + (k : Int) * c)) else none
  | _ => none
def iRgC (gs : En → Rvs) : En → Ri := fun en => match gs en with
  | .ok ts => (match rgC ts with
    | some us => .ok us
    | none => .no)
  | .ex x => .ex x
  | .no => .no
theorem size_up {i j c : Int} (h : 0 < c) : Builtin.Range.rangeSize i j c = ((if i < j then ((j - i - 1) / c + 1).toNat else 0 : Nat) : Int) := by
  unfold Builtin.Range.rangeSize
  rw [if_pos h]
  split
  · have : 0 ≤ (j - i - 1) / c := Int.ediv_nonneg (by omega) (by omega)
    omega
  · rfl
theorem small_up {i j c : Int} (h : 0 < c ∧ c < 1073741824) (hi : -(2 ^ 61) ≤ i ∧ i < 2 ^ 61) (hj : -(2 ^ 61) ≤ j ∧ j < 2 ^ 61) : Builtin.Range.small i j c = true := by
  have hs := size_up (i := i) (j := j) h.1
  have h0 : 0 ≤ Builtin.Range.rangeSize i j c := by rw [hs]; exact Int.natCast_nonneg _
  have h1 : Builtin.Range.rangeSize i j c ≤ 2 ^ 62 := by
    unfold Builtin.Range.rangeSize
    rw [if_pos h.1]
    split
    · have : (j - i - 1) / c ≤ j - i - 1 := Int.ediv_le_self _ (by omega)
      omega
    · omega
  unfold Builtin.Range.small
  rw [if_pos h.1]
  generalize Builtin.Range.rangeSize i j c = n at *
  unfold Builtin.Range.rangeFitsLong
  have a1 : decide (-(2 ^ 63) ≤ i ∧ i < 2 ^ 63) = true := decide_eq_true (by omega)
  simp only [Bool.and_eq_true, Bool.or_eq_true, decide_eq_true_eq]
  omega
theorem wkC {K : Gx} {F L : Hp} {lo c : Int} {n : Nat} : Wk K F L (Itc lo c n) ((List.range n).map fun i : Nat => T.i (lo + (i : Int) * c)) where
  go := fun i H hi _ _ => by
    rw [List.length_map, List.length_range] at hi
    exact hi
  yld := fun i H x H' _ _ y => by
    obtain ⟨rfl, rfl⟩ := y
    refine ⟨Same.refl _, fun t e => ?_⟩
    rw [List.getElem?_map] at e
    obtain ⟨j, h1, h2⟩ := Option.map_eq_some_iff.mp e
    obtain ⟨h3, h4⟩ := List.getElem?_eq_some_iff.mp h1
    rw [List.getElem_range] at h4
    subst h4 h2
    exact ⟨fe, Rep.of_flat (x := .int (lo + (i : Nat) * c)), fun _ z => z.elim⟩
  stop := fun H _ _ => by
    rw [List.length_map, List.length_range]
    exact Nat.le_refl n
theorem Reps.ints3 {K : Gx} {F L H : Hp} {i j k : Int} {vs : List V} {A : Fp} (h : Reps K F L H [T.i i, T.i j, T.i k] vs A) : vs = [.int i, .int j, .int k] := by
  unfold Reps at h
  obtain ⟨v, ws, A1, A2, rfl, rfl, _, h1, h2⟩ := h
  obtain ⟨rfl, _⟩ := h1.flat
  obtain ⟨rfl, _⟩ := Reps.ints h2
  rfl
section
variable {X : Cx} {W : Wt} {a b c e tg : Expr} {pos p p2 pos2 : Pos} {g gv : En → Rv} {gs : En → Rvs} {x : Str}
theorem IE.rng3 (hm : X.mg "range" = none) (ha : AE X W gs [a, b, c]) (hg : Gl X "range" := by rfl) (hs : starEach [a, b, c] X.env = (false, eval a X.env) :: starEach [b, c] X.env := by rfl) (hpl : (backTo pos (starEach [b, c] X.env)).any (·.1) = false := by rfl) : IE X W (iRgC gs) tg (.Call (.Name "range" p) [a, b, c] [] pos) := ⟨_, pi_range3 hg hm ha.pa hs hpl, fun F L H A σ en R S q => by
  unfold iRgC at q
  refine tVA_of S ?_
  cases e1 : gs en with
  | no =>
    rw [e1] at q
    exact q.elim
  | ex x =>
    rw [e1] at q
    exact q
  | ok ts =>
    rw [e1] at q
    intro vs F' H' B pu r b' c'
    have hl := ha.len en ts e1
    dsimp only at q
    cases e2 : rgC ts with
    | none =>
      rw [e2] at q
      exact q.elim
    | some us =>
      rw [e2] at q
      unfold rgC at e2
      split at e2
      · rename_i i j k
        split at e2
        · rename_i hj
          cases e2
          have := Reps.ints3 r
          subst this
          refine ⟨i, j, k, _, rfl, ⟨by omega, by omega, small_up hj.2 hj.1.1 hj.1.2, size_up hj.2.1⟩, q (Itc i k _) F' H' pu wkC⟩
        · cases e2
      · cases e2⟩
end
/-! ### list(range(..)) -/
def lrgT : T → Option T
  | .f (.a (.int n)) => if 0 ≤ n ∧ n ≤ 16777216 then some (.n .ow .lst ((List.range n.toNat).map fun i : Nat => T.i (i : Int))) else none
  | _ => none
theorem ints_Reps {K : Gx} {F L H : Hp} {f : Nat → Int} : ∀ (ks : List Nat), Reps K F L H (ks.map fun i => T.i (f i)) (ks.map fun i => V.int (f i)) fe
  | [] => Reps.nil
  | k :: ks => by
    simp only [List.map_cons]
    unfold Reps
    exact ⟨_, _, fe, fe, rfl, (fu_e).symm, fun _ z => z.elim, Rep.of_flat (x := .int (f k)), ints_Reps ks⟩
theorem o1_lrg {K : Gx} : Op1 K (fun x H Q => ∃ n, x = .int n ∧ RgOk 0 n ∧ ∀ q, H q = none → Q (.ref q) (upd H q (.lst (rgV 0 n)))) lrgT := by
  intro F L H x t1 t A1 Q sF sL r1 e q
  unfold lrgT at e
  split at e
  · rename_i n
    split at e
    · rename_i hn
      cases e
      obtain ⟨rfl, _⟩ := r1.flat
      refine ⟨n, rfl, RgOk.of_le (by omega) hn.2 (by omega) hn.1, fun l hl => ?_⟩
      have ev : rgV 0 n = (List.range n.toNat).map fun i : Nat => V.int (i : Int) := by
        unfold rgV
        rw [Int.sub_zero]
        apply List.map_congr_left
        intro i _
        rw [Int.zero_add]
      rw [ev]
      obtain ⟨h1, h2⟩ := Rep.node (k := .lst) (o := .lst ((List.range n.toNat).map fun i : Nat => V.int (i : Int))) (ints_Reps (K := K) (F := F) (L := L) (H := H) (f := fun i => (i : Int)) (List.range n.toNat)) hl sL sF upd_same
      refine q _ _ _ h2 h1 fun a z => ?_
      rcases z with z | z
      · obtain rfl : a = l := z
        exact .inr hl
      · exact z.elim
    · cases e
  · cases e
/-! ### list(reversed(..)) -/
theorem Reps.reverse {K : Gx} {F L H : Hp} : ∀ {ts : List T} {vs : List V} {A : Fp}, Reps K F L H ts vs A → Reps K F L H ts.reverse vs.reverse A
  | [], vs, A, h => by
    unfold Reps at h
    obtain ⟨rfl, rfl⟩ := h
    exact Reps.nil
  | t :: ts, vs, A, h => by
    unfold Reps at h
    obtain ⟨v, ws, A1, A2, rfl, rfl, d, h1, h2⟩ := h
    rw [List.reverse_cons, List.reverse_cons, fu_comm]
    refine Reps.append (Reps.reverse h2) ?_ d.symm
    unfold Reps
    exact ⟨v, [], A1, fe, rfl, fu_e.symm, fun _ _ z => z.elim, h1, Reps.nil⟩
def revT (t : T) : Option T := match kids t with
  | some (.lst, ts) => some (.n .ow .lst ts.reverse)
  | some (.scr, ts) => some (.n .ow .lst ts.reverse)
  | _ => none
theorem o1_rev {X : Cx} {W : Wt} : Op1 (gx X W) (fun v H Q => ∃ (a : Addr) (xs : List V), v = .ref a ∧ SqL X.K H a xs ∧ ∀ q, H q = none → Q (.ref q) (upd H q (.lst xs.reverse))) revT := by
  intro F L H x t1 t A1 Q sF sL r1 e q
  have fin : ∀ (kd : Kd) (ts : List T), kids t1 = some (kd, ts) → (∀ p vs, Ob (gx X W) H p kd vs → SqL X.K H p vs) → t = .n .ow .lst ts.reverse → ∃ p ys, x = .ref p ∧ SqL X.K H p ys ∧ ∀ l, H l = none → Q (.ref l) (upd H l (.lst ys.reverse)) := fun kd ts ek hk et => by
    subst et
    obtain ⟨p, vs, B, rfl, o, i, rr⟩ := Rep.kids r1 ek sF sL
    refine ⟨p, vs, rfl, hk p vs o, fun l hn => ?_⟩
    obtain ⟨h1, h2⟩ := Rep.node (k := .lst) (o := .lst vs.reverse) (Reps.reverse rr) hn sL sF upd_same
    refine q _ _ _ h2 h1 fun a z => ?_
    rcases z with z | z
    · obtain rfl : a = l := z
      exact .inr hn
    · exact .inl (i a z)
  unfold revT at e
  split at e
  · rename_i ts ek
    exact fin _ ts ek (fun p vs o => SqL.of o) (Option.some.inj e).symm
  · rename_i ts ek
    exact fin _ ts ek (fun p vs o => o) (Option.some.inj e).symm
  · cases e
end DT
/-! Data trees, part 22: list(reversed(..)). -/
namespace RT
open PySem PySem.Spec PyProof.Rows L2
theorem ext_rev {prog : Program} {w : World} {A : Around} {s : Shared} {R : Result → Shared → Prop} {it l S : Addr} {items : Array Value} {c₀ : Nat} (hh : A.handled = none) (hit : s.heap.IsRevIter it l ((items.size : Int) - 1)) (hl : s.heap.IsList l items) (hne : l ≠ it) (hn : items.size ≤ sizeLine)
    (hSi : S ≠ it) (hSl : S ≠ l) (hS₁ : s.heap.get? S = some { cls := .type "list", data := .seq #[] c₀ }) (res : Value)
    (hR : ∀ h' tk acc' c', (∀ b o, b ≠ S → b ≠ it → s.heap.get? b = some o → h'.get? b = some o) → h'.get? S = some { cls := .type "list", dict := none, data := .seq acc' c', slots := #[] } → ItemsOf (fun i v => items[items.size - 1 - i]? = some v) acc' items.size → R (.ok (.ret res)) { s with heap := h', toks := tk }) :
    wpAny (model prog w) A.in1 (Builtin.List.listExtendWith (.ref S) (.ref it) res)
      (fun fin s' => match fin with | .done f => R (.ok f) s' | .again c' => c'.quiet = true ∧ codeAny (model prog w) A c' R s') (fun e s' => R (.error e) s') s := by
  have W := (Walks.listRev (prog := prog) (w := w) (A := A.in1) hh it l hne items).toS
  have hSf : S ∉ [it, l] := by simp only [List.mem_cons, List.not_mem_nil, or_false, not_or]; exact ⟨hSi, hSl⟩
  have hT : s.TypeIs (.ref it) "list_reverseiterator" := hit.typeIs
  have h1 : Builtin.List.listSameRef (.ref S) (.ref it) = false := by simp [Builtin.List.listSameRef, hSi]
  unfold Builtin.List.listExtendWith
  refine wpAny_bind (wpAny_typeOf hT ?_)
  rw [if_neg (by rw [h1]; decide)]
  refine wpAny_bind (wpAny_pyIter_revIter hit ?_)
  refine wpAny_bind (wpAny_holding ?_)
  unfold Builtin.List.listLengthHint
  refine wpAny_bind (wpAny_specialOf hT nolen_lri ?_)
  show wpAny _ A.in1 (specialOf (Value.ref it) (Str.ofString "__length_hint__") >>= _) _ _ _
  refine wpAny_bind (wpAny_specialOf hT hint_lri ?_)
  generalize hid : ("list_reverseiterator.__length_hint__" : String) = id0
  wp_delta
  rw [show splitId id0 = some ("list_reverseiterator", "__length_hint__") from by subst hid; decide +kernel]
  subst hid
  refine wpAny_bind (wpAny_isInstance (b := true) hT (by rw [isSubtype_type]; kernel_rfl) ?_)
  refine wpAny_pure ?_
  rw [if_neg (by decide)]
  have e0 : ((items.size : Nat) : Int) - 1 - ((0 : Nat) : Int) = (items.size : Int) - 1 := by omega
  refine wpAny_pure ⟨plainId_quiet F.plain_extend_loop _, codeAny_extend_loopS W hn _ hSf _ items.size 0 _ _ _ rfl (Nat.zero_le _) ⟨Nat.zero_le _, by rw [e0]; exact hit, hl⟩ hS₁ (ItemsOf.nil _) fun s' acc' c' hm hS' hacc => ?_⟩
  rw [Moved.eq_with hm]
  refine hR s'.heap s'.toks acc' c' (fun b o hb hb2 e => hm.heap b o (fun hmem => ?_) e) hS' hacc
  rcases List.mem_cons.mp hmem with e' | hmem
  · exact hb e'
  · exact hb2 (List.mem_singleton.mp hmem)
theorem init_rev {prog : Program} {w : World} {A : Around} {s : Shared} {R : Result → Shared → Prop} {it l S : Addr} {items : Array Value} (hh : A.handled = none) (hit : s.heap.IsRevIter it l ((items.size : Int) - 1)) (hl : s.heap.IsList l items) (hne : l ≠ it) (hn : items.size ≤ sizeLine)
    (hSi : S ≠ it) (hSl : S ≠ l) (hS : s.heap.get? S = some { cls := .type "list", data := .seq #[] })
    (hR : ∀ h' tk acc' c', (∀ b o, b ≠ S → b ≠ it → s.heap.get? b = some o → h'.get? b = some o) → h'.get? S = some { cls := .type "list", dict := none, data := .seq acc' c', slots := #[] } → ItemsOf (fun i v => items[items.size - 1 - i]? = some v) acc' items.size → R (.ok (.ret .none)) { s with heap := h', toks := tk }) :
    wpAny (model prog w) A.in1 (Builtin.«list.__init__» ⟨[.ref S, .ref it], []⟩)
      (fun fin s' => match fin with | .done f => R (.ok f) s' | .again c' => c'.quiet = true ∧ codeAny (model prog w) A c' R s') (fun e s' => R (.error e) s') s := by
  show wpAny _ _ (do let old ← Builtin.List.listItems (.ref S); Builtin.List.listUpdate (.ref S) (fun _ => #[]); letGo old.toList.reverse; Builtin.List.listExtendWith (.ref S) (.ref it) .none) _ _ s
  refine wpAny_bind ?_
  unfold Builtin.List.listItems
  refine wpAny_bind (wpAny_seqItems hS rfl (wpAny_pure ?_))
  show wpAny _ _ (updateSeq S (fun _ => #[]) >>= fun _ => letGo (#[] : Array Value).toList.reverse >>= fun _ => Builtin.List.listExtendWith (.ref S) (.ref it) .none) _ _ s
  refine wpAny_bind (wpAny_updateSeq hS rfl ?_)
  have hS₂ := Heap.get?_update_self (Obj.mapSeq (fun _ => (#[] : Array Value))) hS rfl
  have oth : ∀ b o, b ≠ S → s.heap.get? b = some o → (s.heap.update S (Obj.mapSeq (fun _ => (#[] : Array Value)))).get? b = some o :=
    fun b o hb e => (Heap.get?_update_other _ _ (Ne.symm hb)).trans e
  refine wpAny_bind (wpAny_letGo ?_)
  refine ext_rev (s := { s with heap := s.heap.update S (Obj.mapSeq (fun _ => (#[] : Array Value))) }) hh (hit.at fun o e => oth _ _ (Ne.symm hSi) e) (hl.at fun o e => oth _ _ (Ne.symm hSl) e) hne hn hSi hSl hS₂ .none fun h' tk acc' c' hk hS' hacc => ?_
  exact hR h' tk acc' c' (fun b o hb hb2 e => hk b o hb hb2 (oth b o hb e)) hS' hacc
theorem call_list_rev {prog : Program} {w : World} {A : Around} {E : Value → Shared → Prop} {s : Shared} {it l : Addr} {items : Array Value} {Q : Value → Shared → Prop} (hh : A.handled = none) (hit : s.heap.IsRevIter it l ((items.size : Int) - 1)) (hl : s.heap.IsList l items) (hne : l ≠ it) (hn : items.size ≤ sizeLine)
    (hQ : ∀ (h' : Heap) (tk : Nat) (acc : Array Value) (c' : Nat), (∀ b o, b ≠ it → s.heap.get? b = some o → h'.get? b = some o) → h'.get? s.heap.objs.size = some { cls := .type "list", dict := none, data := .seq acc c', slots := #[] } → ItemsOf (fun i v => items[items.size - 1 - i]? = some v) acc items.size → Q (.ref s.heap.objs.size) { s with heap := h', toks := tk }) :
    wpAny (model prog w) A (call (.type "list") [.ref it]) Q E s := by
  obtain ⟨oi, hoi, _⟩ := id hit
  obtain ⟨ol, hol, _⟩ := id hl
  refine callType_codes (Q₁ := fun obj s₁ => obj = .ref s.heap.objs.size ∧ s₁ = { s with heap := s.heap.push { cls := .type "list", data := .seq #[] } }) PySem.F.called_list (PySem.F.typeCall_list_1 _) PySem.F.entry_list_init
    (code_list_new _ ⟨rfl, rfl⟩) fun obj s₁ h₁ => ?_
  obtain ⟨rfl, rfl⟩ := h₁
  have hS : (s.heap.push { cls := .type "list", data := .seq #[] }).get? s.heap.objs.size = some { cls := .type "list", data := .seq #[] } := Heap.get?_push_size _ rfl
  refine ⟨⟨_, hS, rfl⟩, PySem.F.args_list_init_2 _ _, init_rev (A := A.in1) (s := { s with heap := s.heap.push { cls := .type "list", data := .seq #[] } }) hh (hit.at fun o e => Heap.get?_push_of_some _ e) (hl.push _) hne hn (Nat.ne_of_gt (Heap.lt_size hoi)) (Nat.ne_of_gt (Heap.lt_size hol)) hS fun h' tk acc' c' hk hS' hacc => ?_⟩
  exact ⟨rfl, hQ h' tk acc' c' (fun b o hb e => hk b o (Nat.ne_of_lt (Heap.lt_size e)) hb (Heap.get?_push_of_some _ e)) hS' hacc⟩
def tLstRev (K : PySem.W.Frag) (te : TE) : TE := fun σ H Q => te σ H fun v H1 => ∃ (a : Addr) (xs : List V), v = .ref a ∧ SqL K H1 a xs ∧ ∀ q, H1 q = none → Q (.ref q) (upd H1 q (.lst xs.reverse))
theorem pe_lstRev {X : Cx} {e : Expr} {te : TE} {p p2 pos pos2 : Pos} (hc : X.calm = true) (hg : Gl X "list") (hm : X.mg "list" = none) (hg2 : Gl X "reversed") (hm2 : X.mg "reversed" = none) (he : PE X e te)
    (hs : starEach [e] X.env = (false, eval e X.env) :: starEach [] X.env := by rfl)
    (hs2 : starEach [.Call (.Name "reversed" p2) [e] [] pos2] X.env = (false, eval (.Call (.Name "reversed" p2) [e] [] pos2) X.env) :: starEach [] X.env := by rfl) :
    PE X (.Call (.Name "list" p) [.Call (.Name "reversed" p2) [e] [] pos2] [] pos) (tLstRev X.K te) := by
  refine ⟨fun pins s σ H Q I h => ?_⟩
  refine Call_ (ld_blt I hg hm boot_list (PyProof.Rows.callWith_type1 (args_cons (Call_ (ld_blt I hg2 hm2 PyProof.Rows.boot_reversed (PyProof.Rows.callWith_type1 (args_cons (thn (he.run pins s σ H _ I h) fun u s1 ⟨v, H1, I1, r1, q1⟩ => args_nil ?_) hs) hs rfl))) hs2) hs2 rfl))
  obtain ⟨a, xs, ev, hq, q⟩ := q1
  subst ev
  obtain rfl : u = Value.ref a := r1
  obtain ⟨its, rv, p', hz⟩ := I1.list hq
  refine call_reversed_list p'.isList (args_nil ?_)
  have k0 : ∀ b o, s1.heap.get? b = some o → (s1.heap.push (revObj a ((its.toArray.size : Int) - 1))).get? b = some o := fun b o e => Heap.get?_push_of_some _ e
  have I2 : Inv X pins σ H1 { s1 with heap := s1.heap.push (revObj a ((its.toArray.size : Int) - 1)) } := I1.kept (t' := s1.toks) k0
  obtain ⟨f0, f1, f2, f3, f4, f5⟩ := I1.fpOk (H' := H1) (b := s1.heap.objs.size) (Nat.le_refl _) (I1.hok.fresh (Nat.le_refl _))
  have hl := p'.isList
  obtain ⟨ol, hol, _⟩ := id hl
  have hne : a ≠ s1.heap.objs.size := Nat.ne_of_lt (Heap.lt_size hol)
  have hn : its.toArray.size ≤ sizeLine := by rw [List.size_toArray, ← rv.length]; exact hz
  refine call_list_rev (s := { s1 with heap := s1.heap.push (revObj a ((its.toArray.size : Int) - 1)) }) (I1.ok.hd hc) ⟨_, Heap.get?_push_size _ rfl, rfl, rfl⟩ (hl.push _) hne hn fun h' tk acc c' hk hD hi => ?_
  have ff := I1.fpOk (H' := H1) (b := s1.heap.objs.size) (Nat.le_refl _) (I1.hok.fresh (Nat.le_refl _))
  refine ⟨.ref _, upd H1 _ (.lst xs.reverse), Inv.turnedNew (ch := [s1.heap.objs.size]) (t' := tk) (T := (s1.heap.push (revObj a ((its.toArray.size : Int) - 1))).objs.size) I2 (fun b o hb e => hk b o (by simpa using hb) e) (fun b hb => by
    have : b = s1.heap.objs.size := by simpa using hb
    subst this
    exact ff) (Nat.le_refl _) (show ObjOk X.prog X.w _ _ _ (.lst xs.reverse) from ⟨by rw [List.length_reverse]; exact hz, acc.toList, c', vals_rev rv hi, by rw [Array.toArray_toList]; exact hD⟩), rfl, q _ (I2.hok.fresh (Nat.le_refl _))⟩
end RT
namespace DT
open PySem L2
section
variable {X : Cx} {W : Wt} {a b c e tg : Expr} {pos p p2 pos2 : Pos} {g gv : En → Rv} {gs : En → Rvs} {x : Str}
theorem VE.lrev (hc : X.calm = true) (hm : X.mg "list" = none) (hm2 : X.mg "reversed" = none) (h : VE X W g e) (hg : Gl X "list" := by rfl) (hg2 : Gl X "reversed" := by rfl)
    (hs : starEach [e] X.env = (false, eval e X.env) :: starEach [] X.env := by rfl)
    (hs2 : starEach [.Call (.Name "reversed" p2) [e] [] pos2] X.env = (false, eval (.Call (.Name "reversed" p2) [e] [] pos2) X.env) :: starEach [] X.env := by rfl) :
    VE X W (v1 revT g) (.Call (.Name "list" p) [.Call (.Name "reversed" p2) [e] [] pos2] [] pos) :=
  pe_imp (RT.pe_lstRev hc hg hm hg2 hm2 h hs hs2) fun σ H Q q => v1_ok o1_rev q
theorem VE.lrg (hc : X.calm = true) (hm : X.mg "list" = none) (hm2 : X.mg "range" = none) (h : VE X W g e) (hg : Gl X "list" := by rfl) (hg2 : Gl X "range" := by rfl)
    (hs : starEach [e] X.env = (false, eval e X.env) :: starEach [] X.env := by rfl)
    (hs2 : starEach [.Call (.Name "range" p2) [e] [] pos2] X.env = (false, eval (.Call (.Name "range" p2) [e] [] pos2) X.env) :: starEach [] X.env := by rfl) :
    VE X W (v1 lrgT g) (.Call (.Name "list" p) [.Call (.Name "range" p2) [e] [] pos2] [] pos) :=
  pe_imp (pe_listRg hc hg hm (prg_1 hg2 hm2 h hs) hs2) fun σ H Q q => v1_ok o1_lrg q
end
theorem rgC_3 {i j c : Int} : rgC [.f (.a (.int i)), .f (.a (.int j)), .f (.a (.int c))] = if ((-(2 ^ 61) ≤ i ∧ i < 2 ^ 61) ∧ -(2 ^ 61) ≤ j ∧ j < 2 ^ 61) ∧ 0 < c ∧ c < 1073741824 then some ((List.range (if i < j then ((j - i - 1) / c + 1).toNat else 0)).map fun k : Nat => T.i (i + (k : Int) * c)) else none := rfl
def rgR : Rvs → Ri
  | .ok ts => (match rgC ts with
    | some us => .ok us
    | none => .no)
  | .ex x => .ex x
  | .no => .no
@[simp] theorem iRgC_at {gs : En → Rvs} {en : En} : iRgC gs en = rgR (gs en) := by unfold iRgC rgR; cases gs en <;> rfl
theorem rgR_ok {ts us : List T} (h : rgC ts = some us) : rgR (.ok ts) = .ok us := by
  show (match rgC ts with
    | some us => Ri.ok us
    | none => .no) = _
  rw [h]
end DT
/-! Data trees, part 23: objects of classes without an __init__ of their own. -/
namespace DT
open PySem L2
def mk0B (K : PySem.W.Frag) (c : String) : Bool := PySem.W.makesIn K (cA K c) && (decide (PySem.W.findIn K (.ref (cA K c)) "__init__" = some (some (.builtin "object.__init__"))) && PySem.W.keepIn K (.ref (cA K c)))
def vMake0 (c : String) : En → Rv := fun _ => .ok (.n .ow (.ins c []) [])
@[simp] theorem vMake0_at {c : String} {en : En} : vMake0 c en = .ok (.n .ow (.ins c []) []) := rfl
section
variable {X : Cx} {W : Wt} {pos p : Pos} {x : Str}
theorem VE.make0 {cn : String} (hb : mk0B X.K cn = true) (gm : X.mg x = some (.ref (cA X.K cn))) (hg : Gl X x := by rfl) (hdb : (x == ("__debug__" : Str)) = false := by decide) : VE X W (vMake0 cn) (.Call (.Name x p) [] [] pos) := by
  obtain ⟨hm, hb⟩ := and2 hb
  obtain ⟨hi, kp⟩ := and2 hb
  have hi := of_decide_eq_true hi
  refine ⟨fun pins s σ H Q I q => ?_⟩
  refine wpAny_Call_Name_kw (ld_glob I hg gm ?_ hdb)
  refine PySem.W.callWith_K0 I.kIn kp ?_
  obtain ⟨F0, L, A, en, S, q⟩ := q
  have Y := PySem.W.makes_of (M := model X.prog X.w) I.kIn hm
  have I2 := Inv.made (C := cA X.K cn) I
  have hx : H (s.heap.objs.size + 1) = none := I.hok.fresh (Nat.le_succ _)
  have hd : H s.heap.objs.size = none := I.hok.fresh (Nat.le_refl _)
  have nd : s.heap.objs.size ≠ s.heap.objs.size + 1 := Nat.ne_of_lt (Nat.lt_succ_self _)
  have same2 : Same H (upd (upd H s.heap.objs.size (.own (s.heap.objs.size + 1))) (s.heap.objs.size + 1) (.ins (cA X.K cn) s.heap.objs.size [])) := fun a o e => by
    rw [upd_ne (ne_of_none e hx), upd_ne (ne_of_none e hd)]
    exact e
  have hq := q (.ref (s.heap.objs.size + 1)) F0 _ (fo (s.heap.objs.size + 1)) ⟨same2, Same.refl _, fun _ a b => absurd a b, S.sF.trans same2⟩ (by
    unfold Rep
    exact ⟨_, [], fe, rfl, ⟨rfl, s.heap.objs.size, upd_same⟩, fun z => z, fu_e.symm, Reps.nil⟩) (fun a z => by rw [show a = _ from z]; exact hx) (fun a z => by rw [show a = _ from z]; exact S.sF.free hx)
  refine wpAny_call (L2.make_map0 I.kIn hm hi (fun self => PySem.W.Looks.of_pure (PySem.W.oi_bind self)) ?_)
  have hx2 : ((s.heap.push PySem.W.emptyDict).push (PySem.W.instObj (cA X.K cn) s.heap.objs.size)).get? (s.heap.objs.size + 1) = some (PySem.W.instObj (cA X.K cn) s.heap.objs.size) := by
    have := Heap.get?_push_size (s.heap.push PySem.W.emptyDict) (o := PySem.W.instObj (cA X.K cn) s.heap.objs.size) rfl
    rw [Heap.size_push] at this
    exact this
  have t1 : PySem.W.Looks (model X.prog X.w) ((s.heap.push PySem.W.emptyDict).push (PySem.W.instObj (cA X.K cn) s.heap.objs.size)) (typeOf (.ref (s.heap.objs.size + 1))) (.ref (cA X.K cn)) := (PySem.W.Looks.ld hx2).andThen .now
  have t2 : PySem.W.Looks (model X.prog X.w) ((s.heap.push PySem.W.emptyDict).push (PySem.W.instObj (cA X.K cn) s.heap.objs.size)) (isInstance (.ref (s.heap.objs.size + 1)) (.type "object")) true := t1.andThen (Y.top.keeps fun b o e => Heap.get?_push_of_some _ (Heap.get?_push_of_some _ e))
  refine codeAny_call_builtin PySem.W.oi_plain PySem.W.entry_oi (@PySem.W.check_slot (model X.prog X.w) _ _ _ "object.__init__" "object" "__init__" (.ref (s.heap.objs.size + 1)) [] [] _ PySem.W.oi_kind PySem.W.oi_split t2 (PySem.W.oi_args (.ref (s.heap.objs.size + 1))) ?_)
  rw [PySem.W.oi_run]
  refine wpAny_pure (And.intro rfl ?_)
  exact ⟨.ref (s.heap.objs.size + 1), _, I2, rfl, hq⟩
end
end DT
/-! Data trees, part 24: the parts of an owned node frozen, the node still owned; lists emptied. -/
namespace DT
open PySem L2
theorem RepDs.reps {K : Gx} {F L H : Hp} : ∀ {ds : List D} {vs : List V}, RepDs K F ds vs → Reps K F L H (ds.map T.f) vs fe
  | [], vs, h => by
    unfold RepDs at h
    subst h
    exact Reps.nil
  | d :: ds, vs, h => by
    unfold RepDs at h
    obtain ⟨v, ws, rfl, h1, h2⟩ := h
    simp only [List.map_cons]
    unfold Reps
    exact ⟨v, ws, fe, fe, rfl, fu_e.symm, fun _ z => z.elim, by unfold Rep; exact ⟨rfl, h1⟩, RepDs.reps h2⟩
def sFzE (i : Nat) (s : En → So) : En → So := fun en => match en[i]? with
  | some (some (.n .ow k ts)) => if noLks ts = true then s (en.set i (some (.n .ow k ((eras ts).map T.f)))) else s en
  | _ => s en
variable {K : Gx}
theorem tS_fzE {s : En → So} {W : WX} {ws : List Nat} {i : Nat} {D : Ends} {σ : L2.St} {H : Hp} (q : tS K (sFzE i s) W ws D σ H) : tS K s W ws D σ H := by
  obtain ⟨F, L, A, en, S, q⟩ := q
  unfold sFzE at q
  split at q
  · rename_i k ts e1
    by_cases nl : noLks ts = true
    · rw [if_pos nl] at q
      obtain ⟨o, Ai, Ar, h1, h2, rfl, h4, h5, h6⟩ := Slots.focus S.sl e1
      cases o with
      | none => exact h2.elim
      | some v =>
        have h2' : Rep K F L H (.n .ow k ts) v Ai := h2
        unfold Rep at h2'
        obtain ⟨p, vs, B, rfl, ob, nB, rfl, rr⟩ := h2'
        have hle : Same F (frz F H B) := frz_le fun q z => S.nF q (.inl (.inr z))
        have rd : RepDs K (frz F H B) (eras ts) vs := Reps.freeze (Le.of hle) ts vs B nl (fun p z => frz_in z) rr
        have s1 := h6 (F' := frz F H B) (H' := H) (Le.of hle) (Le.refl L) (fun _ _ => rfl) (some (.ref p)) (some (.n .ow k ((eras ts).map T.f))) (fo p) (show Rep K _ _ _ _ _ _ by
          unfold Rep
          exact ⟨p, vs, fe, rfl, ob, fun z => z, fu_e.symm, RepDs.reps rd⟩) (fun a z w => h4 a (.inl z) w)
        rw [set_self h1] at s1
        refine ⟨frz F H B, L, fu (fo p) Ar, _, ⟨s1, frz_same S.sF, S.sL, fun a z => ?_, fun a z => S.nL a (z.imp (fun z => .inl z) id)⟩, Cl.on ⟨fun a o e _ => e, fun a z => .inl (z.imp (fun z => .inl z) id), hle, fun a e n => ?_, frz_same S.sF⟩ Wr.refl (fun _ z => z) q⟩
        · rcases z with z | z
          · rw [frz_out fun w => nB (by rw [← show a = p from z]; exact w)]
            exact S.nF a (.inl (.inl z))
          · rw [frz_out fun w => h4 a (.inr w) z]
            exact S.nF a (.inr z)
        · by_cases z : B a
          · exact .inl (.inl (.inr z))
          · rw [frz_out z] at n
            exact absurd e n
    · rw [if_neg nl] at q
      exact ⟨F, L, A, en, S, q⟩
  · exact ⟨F, L, A, en, S, q⟩
section
variable {X : Cx} {W : Wt} {s : En → So} {ws : List Nat} {st : Stmt}
theorem SE.fzE (i : Nat) (h : SE X W s ws st) : SE X W (sFzE i s) ws st := ps_imp h fun D σ H q => tS_fzE q
end
def fzE (i : Nat) (s : En → So) (o : Option (Option T)) (en : En) : So := match o with
  | some (some (.n .ow k ts)) => if noLks ts = true then s (en.set i (some (.n .ow k ((eras ts).map T.f)))) else s en
  | _ => s en
@[simp] theorem sFzE_at {i : Nat} {s : En → So} {en : En} : sFzE i s en = fzE i s en[i]? en := rfl
@[simp] theorem fzE_ow {i : Nat} {s : En → So} {k : Kd} {ts : List T} {en : En} : fzE i s (some (some (.n .ow k ts))) en = if noLks ts = true then s (en.set i (some (.n .ow k ((eras ts).map T.f)))) else s en := rfl
@[simp] theorem fzE_f {i : Nat} {s : En → So} {d : D} {en : En} : fzE i s (some (some (.f d))) en = s en := rfl
@[simp] theorem fzE_no {i : Nat} {s : En → So} {en : En} : fzE i s (some none) en = s en := rfl
@[simp] theorem fzE_lk {i : Nat} {s : En → So} {k : Kd} {ts : List T} {en : En} : fzE i s (some (some (.n .lk k ts))) en = s en := rfl
/-! ### lists changed as a whole: clear, reverse -/
def dLm (φ : List T → List T) (i : Nat) : En → Rs := fun en => match olst en[i]? with
  | some ts => .ok (.f (.a .non)) (en.set i (some (.n .ow .lst (φ ts))))
  | none => .no
theorem lm_fin {K : Gx} {W : WX} {i : Nat} {φ : List T → List T} {ψ : List V → List V} (hφ : ∀ F L H ts vs B, Reps K F L H ts vs B → ∃ B', Reps K F L H (φ ts) (ψ vs) B' ∧ ∀ p, B' p → B p) {σ : L2.St} {H : Hp} {Q : VK} (q : tE K (dLm φ i) W σ H Q) :
    ∃ p vs, σ[i]? = some (some (.ref p)) ∧ SqL K.K H p vs ∧ H p = some (.lst vs) ∧ Q .non (upd H p (.lst (ψ vs))) := by
  obtain ⟨F, L, A, en, S, q⟩ := q
  unfold dLm at q
  cases e0 : olst en[i]? with
  | none =>
    rw [e0] at q
    exact q.elim
  | some ts =>
    rw [e0] at q
    dsimp only at q
    have e1 := olst_ok e0
    obtain ⟨ov, Ai, Ar, h1, h2, rfl, h4, h5, h6⟩ := Slots.focus S.sl e1
    cases ov with
    | none => exact h2.elim
    | some v =>
      have h2' : Rep K F L H (.n .ow .lst ts) v Ai := h2
      unfold Rep at h2'
      obtain ⟨q0, vs, Bi, rfl, hx, hn, rfl, hr⟩ := h2'
      have hx' : H q0 = some (.lst vs) := hx
      obtain ⟨B', k1, k2⟩ := hφ F L H ts vs Bi hr
      have dm := Reps.dom ts vs Bi hr
      have n1 : ∀ z, B' z → z ≠ q0 := fun z w y => hn (y ▸ k2 z w)
      have nr : ∀ z, Ar z → z ≠ q0 := fun z w y => h4 q0 (.inl rfl) (y ▸ w)
      have nF : F q0 = none := S.nF q0 (.inl (.inl rfl))
      have nL : L q0 = none := S.nL q0 (.inl (.inl rfl))
      refine ⟨q0, vs, h1, SqL.of hx', hx', ?_⟩
      have rep : Rep K F L (upd H q0 (.lst (ψ vs))) (.n .ow .lst (φ ts)) (.ref q0) (fu (fo q0) B') := by
        unfold Rep
        exact ⟨q0, _, B', rfl, upd_same, fun z => hn (k2 _ z), rfl, Reps.keep (Le.refl _) (Le.refl _) _ _ B' (fun z w => upd_ne (n1 z w)) k1⟩
      have s1 := h6 (F' := F) (L' := L) (H' := upd H q0 (.lst (ψ vs))) (Le.refl F) (Le.refl L) (fun z w => upd_ne (nr z w)) (some (.ref q0)) (some (.n .ow .lst (φ ts))) (fu (fo q0) B') rep fun z w y => w.elim (fun w => h4 z (.inl w) y) fun w => h4 z (.inr (k2 z w)) y
      rw [set_self h1] at s1
      have sF : Same F (upd H q0 (.lst (ψ vs))) := fun z u e => by rw [upd_ne (ne_of_none e nF)]; exact S.sF z u e
      have sL : Same L (upd H q0 (.lst (ψ vs))) := fun z u e => by rw [upd_ne (ne_of_none e nL)]; exact S.sL z u e
      have up : ∀ z, fu (fu (fo q0) B') Ar z → fu (fu (fo q0) Bi) Ar z := fun z w => w.elim (fun w => .inl (w.imp id (k2 z))) .inr
      refine q .non F _ (fu (fu (fo q0) B') Ar) fe ⟨s1, sF, sL, fun z w => S.nF z (up z w), fun z w => S.nL z (up z w)⟩ (Rep.of_flat (x := .non)) (fun _ _ z => z.elim) (fun _ z => z.elim) (fun _ z => z.elim) ?_
      refine ⟨fun z o e n => ?_, fun z w => .inl (w.elim (up z) fun w => w.elim), Same.refl F, fun z e n => absurd e n, sF⟩
      have : z ≠ q0 := fun w => n (.inl (.inl w))
      rw [upd_ne this]
      exact e
section
variable {X : Cx} {W : Wt} {e a b c o : Expr} {es : List Expr} {pos pos' np p apos p2 : Pos} {x : Str}
theorem DE.clear (i : Nat) (hN : X.N[i]? = some x := by rfl) (hv : Vis X.env.scope x := by first | exact Or.inl rfl | exact Or.inr (Or.inl rfl) | exact Or.inr (Or.inr rfl)) (hd : (x == ("__debug__" : Str)) = false := by decide)
    (hcd : (x == ("__classdict__" : Str)) = false := by decide) (hbase : attributeBase (.Name x p2) "clear" X.env (eval (.Name x p2) X.env) = eval (.Name x p2) X.env := by rfl) (hline : (apos.endLine == pos.line) = true := by rfl) : DE X W (dLm (fun _ => []) i) (.Call (.Attribute (.Name x p2) "clear" apos) [] [] pos) :=
  pe_imp (pe_bm0 PySem.F.plainAttrs_list PySem.F.slot_list_clear PySem.F.type_list_clear mt_clear (pe_var hN hv hd hcd) hbase hline) fun σ H Q q => by
    obtain ⟨q0, vs, h1, h2, h3, h4⟩ := lm_fin (ψ := fun _ => []) (fun F L H ts vs B _ => ⟨fe, Reps.nil, fun _ z => z.elim⟩) q
    exact ⟨.ref q0, h1, .inl ⟨rfl, vs, h2⟩, q0, vs, rfl, rfl, h3, h4⟩
theorem DE.reverse (i : Nat) (hN : X.N[i]? = some x := by rfl) (hv : Vis X.env.scope x := by first | exact Or.inl rfl | exact Or.inr (Or.inl rfl) | exact Or.inr (Or.inr rfl)) (hd : (x == ("__debug__" : Str)) = false := by decide)
    (hcd : (x == ("__classdict__" : Str)) = false := by decide) (hbase : attributeBase (.Name x p2) "reverse" X.env (eval (.Name x p2) X.env) = eval (.Name x p2) X.env := by rfl) (hline : (apos.endLine == pos.line) = true := by rfl) : DE X W (dLm List.reverse i) (.Call (.Attribute (.Name x p2) "reverse" apos) [] [] pos) :=
  pe_imp (pe_bm0 PySem.F.plainAttrs_list PySem.F.slot_list_reverse PySem.F.type_list_reverse mt_reverse (pe_var hN hv hd hcd) hbase hline) fun σ H Q q => by
    obtain ⟨q0, vs, h1, h2, h3, h4⟩ := lm_fin (ψ := List.reverse) (fun F L H ts vs B r => ⟨B, Reps.reverse r, fun _ z => z⟩) q
    exact ⟨.ref q0, h1, .inl ⟨rfl, vs, h2⟩, q0, vs, rfl, rfl, h3, h4⟩
end
def lmR (φ : List T → List T) (i : Nat) (o : Option (Option T)) (en : En) : Rs := match olst o with
  | some ts => .ok (.f (.a .non)) (en.set i (some (.n .ow .lst (φ ts))))
  | none => .no
@[simp] theorem dLm_at {φ : List T → List T} {i : Nat} {en : En} : dLm φ i en = lmR φ i en[i]? en := rfl
@[simp] theorem lmR_ow {φ : List T → List T} {i : Nat} {ts : List T} {en : En} : lmR φ i (some (some (.n .ow .lst ts))) en = .ok (.f (.a .non)) (en.set i (some (.n .ow .lst (φ ts)))) := rfl
@[simp] theorem addT_fl {m : Md} {ds : List D} {us : List T} : addT (.f (.n .lst ds)) (.n m .lst us) = if (ds.map T.f).length + us.length ≤ LINE then some (.n .ow .lst (ds.map T.f ++ us)) else none := rfl
@[simp] theorem addT_lf {m : Md} {ds : List D} {us : List T} : addT (.n m .lst us) (.f (.n .lst ds)) = if us.length + (ds.map T.f).length ≤ LINE then some (.n .ow .lst (us ++ ds.map T.f)) else none := rfl
@[simp] theorem addT_ff {ds es : List D} : addT (.f (.n .lst ds)) (.f (.n .lst es)) = if (ds.map T.f).length + (es.map T.f).length ≤ LINE then some (.n .ow .lst (ds.map T.f ++ es.map T.f)) else none := rfl
end DT
/-! Data trees, part 25: is True, is False. -/
namespace DT
open PySem L2
def isBT (t u : T) : Option T := match t, u with
  | .f (.a (.bl a)), .f (.a (.bl b)) => some (.b (decide (a = b)))
  | _, _ => none
theorem o2_isB {K : Gx} : Op2 K (fun x y H Q => ∃ a b, x = .bl a ∧ y = .bl b ∧ Q (.bl (decide (a = b))) H) isBT := Op2.flat fun F L H x y t1 t2 t A1 A2 sF sL r1 r2 e => by
  unfold isBT at e
  split at e
  · rename_i a b
    cases e
    obtain ⟨rfl, _⟩ := r1.flat
    obtain ⟨rfl, _⟩ := r2.flat
    exact ⟨.bl (decide (a = b)), rfl, fun Q q => ⟨a, b, rfl, rfl, q⟩⟩
  · cases e
@[simp] theorem isBT_b {a b : Bool} : isBT (.f (.a (.bl a))) (.f (.a (.bl b))) = some (.f (.a (.bl (decide (a = b))))) := rfl
end DT
/-! Data trees, part 26: exceptions made, held as values. -/
namespace DT
open PySem L2
section
variable {X : Cx} {W : Wt} {e a b c : Expr} {es : List Expr} {pos pos' p : Pos} {g : En → Rv} {gs : En → Rvs} {k : Nat}
theorem pe_of_mk {e : Expr} {t : L2.St → Hp → XK → Prop} (h : PMk X e t) : PE X e (fun σ H Q => t σ H fun cls d H' => ∀ a oe, H' a = none → Zc cls d oe → (∃ vs, oe.data = .fields vs) → Q (.ref a) (upd H' a (.ext fun h => h.get? a = some oe))) := by
  refine ⟨fun pins s σ H Q I q => wpAny_mono (h pins s σ H _ I q) (fun u s' hu => ?_) fun _ _ z => z⟩
  obtain ⟨a, oe, vs, sI, H', cls, d, rfl, J, kk, hne, he, hz, hd, h1, hn, hos, hg, hr, q⟩ := hu
  have new : ObjOk X.prog X.w (upd H' a (.ext fun h => h.get? a = some oe)) s'.heap a (.ext fun h => h.get? a = some oe) := ⟨he, ⟨oe, he⟩, fun h h' e k => k oe e⟩
  have I1 := J.laidN (t' := s'.toks) kk hne hn new
  have I2 : Inv X pins σ (upd H' a (.ext fun h => h.get? a = some oe)) { { sI with heap := s'.heap, toks := s'.toks } with heap := s'.heap, gens := s'.gens, drawn := s'.drawn, toks := s'.toks } :=
    I1.step (ch := []) (g' := s'.gens) (d' := s'.drawn) (t' := s'.toks) (fun b hb => by cases hb) (fun b o _ _ _ e _ => e) (fun b o _ _ _ e _ => ⟨o.slots, e⟩) (fun _ _ _ _ n => n) (fun b o _ e => ⟨o, e⟩) (fun _ _ e => e) (fun _ _ _ e => e) (fun b ps e => ⟨#[], by rw [e]; simp⟩) (fun m hm => hm) I1.hok hg
  have es : ({ { sI with heap := s'.heap, toks := s'.toks } with heap := s'.heap, gens := s'.gens, drawn := s'.drawn, toks := s'.toks } : Shared) = s' := by
    obtain ⟨h', g', d', t', o'⟩ := s'
    dsimp only at hos ⊢
    rw [hos]
  rw [es] at I2
  exact ⟨.ref a, _, I2, rfl, q a oe hn hz ⟨vs, hd⟩⟩
def vExc (c : String) (fis : List (Str × Nat)) (gs : En → Rvs) : En → Rv := fun en => match gs en with
  | .ok ts => (match allF ts with
    | some ds => .ok (.f (.n (.exc (mkX c fis ds).c (mkX c fis ds).fs) (mkX c fis ds).ds))
    | none => .no)
  | .ex x => .ex x
  | .no => .no
theorem VE.exc0 {cn : String} {x : Str} {fis : List (Str × Nat)} {n j : Nat} {fI : Addr} {fd : FuncData} {ps : List Str} (C : Cxt k X W) (T : XcC X.K cn) (iC : PySem.W.findIn X.K (.ref (cA X.K cn)) "__init__" = some (some (.ref fI))) (tI : PySem.W.typeIn X.K (.ref fI) = some (.type "function"))
    (F : FnOk X.prog X.w X.K X.mg X.base (L2N.CX X.prog X.w) j fI fd ps (spX X.K n fis)) (hj : j + 1 ≤ k) (hb : Binds X.K fd ps []) (hno : ∀ p ∈ fis, PySem.W.findIn X.K (.ref (cA X.K cn)) p.1 = some none) (hi : ∀ p ∈ fis, p.2 < n) (hn : (e :: es).length = n) (hm : X.mg x = some (.ref (cA X.K cn)))
    (ha : AE X W gs (e :: es)) (hg : Gl X x := by rfl) (hl : (e :: es).length ≤ 1000 := by decide)
    (hdb : (x == ("__debug__" : Str)) = false := by decide) (he : starEach (e :: es) X.env = (false, eval e X.env) :: starEach es X.env := by rfl) (hpl : (backTo pos (starEach es X.env)).any (·.1) = false := by rfl) :
    VE X W (vExc cn fis gs) (.Call (.Name x p) (e :: es) [] pos) :=
  pe_imp (pe_of_mk (pmk_oex T.oe iC tI F (C.room.mono hj) hb .nil passes0 hg hm ha.pa hdb he hpl)) fun σ H Q q => by
    obtain ⟨F0, L, A, en, S, q⟩ := q
    refine ⟨F0, L, A, en, S, ?_⟩
    unfold vExc at q
    cases e1 : gs en with
    | no =>
      rw [e1] at q
      exact q
    | ex x =>
      rw [e1] at q
      exact q
    | ok ts =>
      rw [e1] at q
      dsimp only at q
      cases e2 : allF ts with
      | none =>
        rw [e2] at q
        exact q.elim
      | some ds =>
        rw [e2] at q
        dsimp only at q
        intro vs F1 H1 B1 p1 r1 b1 c1
        obtain ⟨h1, rfl⟩ := allF_reps e2 r1
        have lv : vs.length = n := by rw [← Reps.length r1, ha.len en ts e1, hn]
        refine ⟨by rw [lv, ← hn]; exact hl, fun a na => ?_⟩
        refine ⟨a, cA X.K cn, vs, by rw [List.append_nil], lv, T.oe, hno, upd_same, fun d hd nd => ⟨rfl, d, xfs fis vs, upd_same, by rw [upd_ne nd, upd_same], ?_, ?_⟩⟩
        · rw [upd_ne nd] at hd
          exact hd
        · rw [upd_ne nd] at hd
          have eH : upd (del (upd (upd (upd H1 a (exo a (cA X.K cn) none)) d (exd d (xfs fis vs))) a (exo a (cA X.K cn) (some d))) a) d (.xd (xfs fis vs)) = upd H1 d (.xd (xfs fis vs)) := funext fun b => by
            by_cases eb : b = d
            · rw [eb, upd_same, upd_same]
            · rw [upd_ne eb, upd_ne eb]
              by_cases ea : b = a
              · rw [ea, del_same, na]
              · rw [del_ne ea, upd_ne ea, upd_ne eb, upd_ne ea]
          rw [eH]
          intro a' oe ha' hz hdt
          have S1 := S.pur p1
          have hF : F1 d = none := S1.sF.free hd
          have da : a' ≠ d := fun z => by rw [z, upd_same] at ha'; cases ha'
          have ha1 : H1 a' = none := by rw [upd_ne da] at ha'; exact ha'
          have hFa : F1 a' = none := S1.sF.free ha1
          have sf : Same F1 (upd (upd F1 d (.xd (xfs fis vs))) a' (.ext fun h => h.get? a' = some oe)) := fun b u e => by rw [upd_ne (ne_of_none e hFa), upd_ne (ne_of_none e hF)]; exact e
          have sh : Same H1 (upd (upd H1 d (.xd (xfs fis vs))) a' (.ext fun h => h.get? a' = some oe)) := fun b u e => by rw [upd_ne (ne_of_none e ha1), upd_ne (ne_of_none e hd)]; exact e
          have pu : Pur F1 H1 (upd (upd F1 d (.xd (xfs fis vs))) a' (.ext fun h => h.get? a' = some oe)) (upd (upd H1 d (.xd (xfs fis vs))) a' (.ext fun h => h.get? a' = some oe)) := ⟨sh, sf, fun b e n => by
            by_cases z : b = a'
            · rw [z]; exact ha1
            · rw [upd_ne z] at n
              by_cases z : b = d
              · rw [z]; exact hd
              · rw [upd_ne z] at n
                exact absurd e n, fun b u e => by
            by_cases z : b = a'
            · subst z
              rw [upd_same] at e ⊢
              exact e
            · rw [upd_ne z] at e ⊢
              by_cases z : b = d
              · subst z
                rw [upd_same] at e ⊢
                exact e
              · rw [upd_ne z] at e ⊢
                exact S1.sF b u e⟩
          have pt := p1.trans pu
          have ld : ds.length = n := by rw [RepDs.length h1, lv]
          obtain ⟨m1, m2, m3⟩ := mkX_rep (c := cn) (RepDs.mono (Le.of sf) ds vs h1) fis fun p hp => by rw [ld]; exact hi p hp
          refine q (.ref a') _ _ fe pt ?_ (fun _ z => z.elim) fun _ z => z.elim
          unfold Rep RepD
          refine ⟨rfl, a', _, rfl, ⟨m3, oe, d, .inr upd_same, hz.1, hz.2, hdt, ?_⟩, m1⟩
          rw [upd_ne (Ne.symm da), upd_same, ← m2]
theorem VE.exc {cn : String} {x : Str} {fis : List (Str × Nat)} {n : Nat} (F : Xok X.prog X.w X.K X.mg X.base cn n fis) (C : Cxt k X W) (hx : x = Str.ofString cn) (ha : AE X W gs (e :: es)) (hj : 2 ≤ k := by decide) (hn : (e :: es).length = n := by rfl) (hg : Gl X x := by rfl) (hl : (e :: es).length ≤ 1000 := by decide)
    (hdb : (x == ("__debug__" : Str)) = false := by decide) (he : starEach (e :: es) X.env = (false, eval e X.env) :: starEach es X.env := by rfl) (hpl : (backTo pos (starEach es X.env)).any (·.1) = false := by rfl) :
    VE X W (vExc cn fis gs) (.Call (.Name x p) (e :: es) [] pos) := by
  obtain ⟨fI, fd, ps, iC, tI, F1, hb⟩ := F.ex
  subst hx
  exact VE.exc0 C F.xc iC tI F1 hj hb F.no F.hi hn F.gm ha hg hl hdb he hpl
end
def exV (c : String) (fis : List (Str × Nat)) : Rvs → Rv
  | .ok ts => (match allF ts with
    | some ds => .ok (.f (.n (.exc (mkX c fis ds).c (mkX c fis ds).fs) (mkX c fis ds).ds))
    | none => .no)
  | .ex x => .ex x
  | .no => .no
@[simp] theorem vExc_at {c : String} {fis : List (Str × Nat)} {gs : En → Rvs} {en : En} : vExc c fis gs en = exV c fis (gs en) := by unfold vExc exV; cases gs en <;> rfl
@[simp] theorem exV_1 {c : String} {f : Str} {a : D} : exV c [(f, 0)] (.ok [.f a]) = .ok (.f (.n (.exc c [f]) [a])) := rfl
@[simp] theorem exV_2 {c : String} {f g : Str} {a b : D} : exV c [(f, 0), (g, 1)] (.ok [.f a, .f b]) = .ok (.f (.n (.exc c [g, f]) [b, a])) := rfl
end DT
/-! Data trees, part 27: typed readings. -/
namespace DT
open PySem L2

/-! ### typed programs -/
inductive M (α : Type) where
  | ok (a : α) | ex (x : Ex) | no
def M.bind {α β : Type} (m : M α) (f : α → M β) : M β := match m with
  | .ok a => f a
  | .ex x => .ex x
  | .no => .no
inductive O (σ β ρ : Type) where
  | nx (s : σ) | bk (b : β) | rt (r : ρ) | ex (x : Ex) | no
def O.bind {α σ β ρ : Type} (m : M α) (k : α → O σ β ρ) : O σ β ρ := match m with
  | .ok a => k a
  | .ex x => .ex x
  | .no => .no
def O.seq {σ τ β ρ : Type} (o : O σ β ρ) (k : σ → O τ β ρ) : O τ β ρ := match o with
  | .nx s => k s
  | .bk b => .bk b
  | .rt r => .rt r
  | .ex x => .ex x
  | .no => .no
def forO {α σ β ρ : Type} (f : α → σ → O σ σ ρ) : List α → σ → O σ β ρ
  | [], st => .nx st
  | a :: as, st => match f a st with
    | .nx s => forO f as s
    | .bk s => .nx s
    | .rt r => .rt r
    | .ex x => .ex x
    | .no => .no
def fnO {ρ : Type} (d : ρ) (o : O Unit Empty ρ) : M ρ := match o with
  | .nx _ => .ok d
  | .bk _ => .no
  | .rt r => .ok r
  | .ex x => .ex x
  | .no => .no
def whN {σ β ρ : Type} (c : σ → M Bool) (f : σ → O σ σ ρ) : Nat → σ → O σ β ρ
  | 0, _ => .no
  | n + 1, st => match c st with
    | .ok false => .nx st
    | .ok true => (match f st with
      | .nx s => whN c f n s
      | .bk s => .nx s
      | .rt r => .rt r
      | .ex x => .ex x
      | .no => .no)
    | .ex x => .ex x
    | .no => .no
open Classical in
noncomputable def whO {σ β ρ : Type} (c : σ → M Bool) (f : σ → O σ σ ρ) (st : σ) : O σ β ρ := if h : ∃ n, whN (β := β) c f n st ≠ .no then whN c f h.choose st else .no
theorem whN_more {σ β ρ : Type} (c : σ → M Bool) (f : σ → O σ σ ρ) : ∀ (n : Nat) (st : σ), whN (β := β) c f n st ≠ .no → ∀ m, n ≤ m → whN (β := β) c f m st = whN c f n st
  | 0, _, h, _, _ => absurd rfl h
  | n + 1, st, h, 0, l => by omega
  | n + 1, st, h, m + 1, l => by
    unfold whN at h ⊢
    cases e1 : c st with
    | ok b =>
      rw [e1] at h
      cases b with
      | false => rfl
      | true =>
        dsimp only at h ⊢
        cases e2 : f st with
        | nx e =>
          rw [e2] at h
          exact whN_more c f n e h m (by omega)
        | _ => rfl
    | ex x => rfl
    | no => rfl
theorem whO_of {σ β ρ : Type} {c : σ → M Bool} {f : σ → O σ σ ρ} {st : σ} {n : Nat} {r : O σ β ρ} (h : whN c f n st = r) (hr : r ≠ .no) : whO c f st = r := by
  have z : ∃ n, whN (β := β) c f n st ≠ .no := ⟨n, by rw [h]; exact hr⟩
  unfold whO
  rw [dif_pos z]
  have h1 := z.choose_spec
  rcases Nat.le_total n z.choose with l | l
  · rw [whN_more c f n st (by rw [h]; exact hr) _ l, h]
  · rw [← whN_more c f z.choose st h1 n l, h]
theorem whO_at {σ β ρ : Type} {c : σ → M Bool} {f : σ → O σ σ ρ} {st : σ} (h : whO (β := β) c f st ≠ .no) : ∃ n, whN (β := β) c f n st = whO c f st := by
  unfold whO at h ⊢
  split at h
  · rename_i z
    rw [dif_pos z]
    exact ⟨_, rfl⟩
  · exact absurd rfl h

/-! ### values as data -/
abbrev eI (i : Int) : D := .a (.int i)
abbrev eS (s : Str) : D := .a (.str s)
abbrev eB (b : Bool) : D := .a (.bl b)
def eU (_ : Unit) : D := .a .non
def eD (d : D) : D := d
def eO {α : Type} (e : α → D) : Option α → D
  | none => .a .non
  | some a => e a
def eK : Key → D
  | .inl i => .a (.int i)
  | .inr s => .a (.str s)
def eL {α : Type} (e : α → D) (xs : List α) : D := .n .lst (xs.map e)
def eP2 {α β : Type} (a : α → D) (b : β → D) (p : α × β) : D := .n .tup [a p.1, b p.2]
def eP3 {α β γ : Type} (a : α → D) (b : β → D) (c : γ → D) (p : α × β × γ) : D := .n .tup [a p.1, b p.2.1, c p.2.2]
def eP4 {α β γ δ : Type} (a : α → D) (b : β → D) (c : γ → D) (d : δ → D) (p : α × β × γ × δ) : D := .n .tup [a p.1, b p.2.1, c p.2.2.1, d p.2.2.2]
def eP5 {α β γ δ ε : Type} (a : α → D) (b : β → D) (c : γ → D) (d : δ → D) (e : ε → D) (p : α × β × γ × δ × ε) : D := .n .tup [a p.1, b p.2.1, c p.2.2.1, d p.2.2.2.1, e p.2.2.2.2]
def eP6 {α β γ δ ε ζ : Type} (a : α → D) (b : β → D) (c : γ → D) (d : δ → D) (e : ε → D) (f : ζ → D) (p : α × β × γ × δ × ε × ζ) : D := .n .tup [a p.1, b p.2.1, c p.2.2.1, d p.2.2.2.1, e p.2.2.2.2.1, f p.2.2.2.2.2]
def eX (x : Ex) : D := .n (.exc x.c x.fs) x.ds
/-- a dict: its entries in order -/
structure Dic (κ ν : Type) where
  l : List (κ × ν)
  nd : (l.map (·.1)).Nodup
structure Keyed {κ : Type} (k : κ → Key) (e : κ → D) : Prop where
  inj : ∀ a b, k a = k b → a = b
  key : ∀ a, keyT (.f (e a)) = some (k a)
def kI (i : Int) : Key := .inl i
def kS (s : Str) : Key := .inr s
def kK (k : Key) : Key := k
theorem keyI : Keyed kI eI := ⟨fun _ _ h => Sum.inl.inj h, fun _ => rfl⟩
theorem keyS : Keyed kS eS := ⟨fun _ _ h => Sum.inr.inj h, fun _ => rfl⟩
theorem keyK : Keyed kK eK := ⟨fun _ _ h => h, fun a => by cases a <;> rfl⟩
def eM {κ ν : Type} (k : κ → Key) (e : ν → D) (m : Dic κ ν) : D := .n (.dic (m.l.map fun p => k p.1)) (m.l.map fun p => e p.2)

/-! ### values as trees -/
abbrev F {α : Type} (e : α → D) (a : α) : T := .f (e a)
def OL {α : Type} (s : α → T) (xs : List α) : T := .n .ow .lst (xs.map s)
def LL {α : Type} (s : α → T) (xs : List α) : T := .n .lk .lst (xs.map s)
def OM {κ ν : Type} (k : κ → Key) (s : ν → T) (m : Dic κ ν) : T := .n .ow (.dic (m.l.map fun p => k p.1)) (m.l.map fun p => s p.2)
def LM {κ ν : Type} (k : κ → Key) (s : ν → T) (m : Dic κ ν) : T := .n .lk (.dic (m.l.map fun p => k p.1)) (m.l.map fun p => s p.2)
def OP2 {α β : Type} (a : α → T) (b : β → T) (p : α × β) : T := .n .ow .tup [a p.1, b p.2]
def LP2 {α β : Type} (a : α → T) (b : β → T) (p : α × β) : T := .n .lk .tup [a p.1, b p.2]
def OP3 {α β γ : Type} (a : α → T) (b : β → T) (c : γ → T) (p : α × β × γ) : T := .n .ow .tup [a p.1, b p.2.1, c p.2.2]
def LP3 {α β γ : Type} (a : α → T) (b : β → T) (c : γ → T) (p : α × β × γ) : T := .n .lk .tup [a p.1, b p.2.1, c p.2.2]

section
variable {α β γ σ τ ρ κ ν : Type} {e : α → D} {s : α → T} {en : En}
theorem eL_F {xs : List α} : (xs.map e).map T.f = xs.map (F e) := by rw [List.map_map]; rfl

/-! ### what is read -/
structure RdL (S : List α → T) (s : α → T) : Prop where
  k : ∀ xs, kids (S xs) = some (.lst, xs.map s)
theorem rdF : RdL (F (eL e)) (F e) := ⟨fun xs => by show some (Kd.lst, (xs.map e).map T.f) = _; rw [eL_F]⟩
theorem rdO : RdL (OL s) s := ⟨fun _ => rfl⟩
theorem rdLk : RdL (LL s) s := ⟨fun _ => rfl⟩
theorem kids_scr {ns : List Int} : kids (scr ns) = some (.scr, ns.map (F eI)) := by
  show some (Kd.scr, (ns.map eI).map T.f) = _
  rw [eL_F]
structure RdM (k : κ → Key) (S : Dic κ ν → T) (s : ν → T) : Prop where
  k : ∀ m, kids (S m) = some (.dic (m.l.map fun p => k p.1), m.l.map fun p => s p.2)
theorem rmF {k : κ → Key} {e : ν → D} : RdM k (F (eM k e)) (F e) := ⟨fun m => by show some (_, (m.l.map fun p => e p.2).map T.f) = _; rw [List.map_map]; rfl⟩
theorem rmO {k : κ → Key} {s : ν → T} : RdM k (OM k s) s := ⟨fun _ => rfl⟩
theorem rmL {k : κ → Key} {s : ν → T} : RdM k (LM k s) s := ⟨fun _ => rfl⟩

/-! ### results -/
def RvR (e : α → T) (p : M α) (r : Rv) : Prop := match p with
  | .ok a => r = .ok (e a)
  | .ex x => r = .ex x
  | .no => True
def RbR (p : M Bool) (r : Rb) : Prop := match p with
  | .ok a => r = .ok a
  | .ex x => r = .ex x
  | .no => True
def RiR (e : α → T) (p : M (List α)) (r : Ri) : Prop := match p with
  | .ok a => r = .ok (a.map e)
  | .ex x => r = .ex x
  | .no => True
def RoR (e : α → T) (p : M α) (r : Option T) : Prop := match p with
  | .ok a => r = some (e a)
  | .ex _ => False
  | .no => True
structure Po (σ β ρ : Type) where
  nx : σ → En → Prop
  bk : β → En → Prop
  rt : ρ → T → En → Prop
  ex : En → Prop
def SoR (P : Po σ β ρ) (o : O σ β ρ) (r : So) : Prop := match o with
  | .nx s => ∃ e, r = .nx e ∧ P.nx s e
  | .bk s => ∃ e, r = .bk e ∧ P.bk s e
  | .rt v => ∃ t e, r = .rt t e ∧ noLk t = true ∧ P.rt v t e
  | .ex x => ∃ e, r = .ex x e ∧ P.ex e
  | .no => True

/-! ### expressions -/
variable {φ : T → T → Option T} {φ1 : T → Option T} {g g1 g2 g3 : En → Rv} {t t1 t2 t3 u : T} {p : M α} {f : α → M β} {x : Ex} {e1 : β → T} {q : En → Rb} {q1 q2 : En → Rb} {gs : En → Rvs}
theorem rv_ok {a : α} {r : Rv} (h : r = .ok (s a)) : RvR s (.ok a) r := h
theorem rb_ok {a : Bool} {r : Rb} (h : r = .ok a) : RbR (.ok a) r := h
theorem vv {i : Nat} {o : T} (h : en[i]? = some (some o)) (hl : lock o = t) : vVar i en = .ok t := by rw [vVar_eq, h, ← hl]; rfl
theorem vvF {i : Nat} {d : D} (h : en[i]? = some (some (.f d))) : vVar i en = .ok (.f d) := by rw [vVar_eq, h]; rfl
theorem t_1 (h : g en = .ok t) (hf : φ1 t = some u) : v1 φ1 g en = .ok u := by rw [v1_at, h]; show oRv (φ1 t) = _; rw [hf]; rfl
theorem g_1 (h : g en = .ok t) (hf : RoR s p (φ1 t)) : RvR s p (v1 φ1 g en) := by
  rw [v1_at, h]
  show RvR s p (oRv (φ1 t))
  cases p with
  | ok a => rw [show φ1 t = some (s a) from hf]; rfl
  | ex x => exact hf.elim
  | no => trivial
theorem m_1 (h : RvR s p (g en)) (k : ∀ a, g en = .ok (s a) → RvR e1 (f a) (v1 φ1 g en)) : RvR e1 (M.bind p f) (v1 φ1 g en) := by
  cases p with
  | ok a => exact k a h
  | ex x => show v1 φ1 g en = .ex x; rw [v1_at, show g en = .ex x from h]; rfl
  | no => trivial
theorem t_2 (h : g1 en = .ok t1) (h2 : g2 en = .ok t2) (hf : φ t1 t2 = some u) : v2 φ g1 g2 en = .ok u := by rw [v2_at, h, h2]; show oRv (φ t1 t2) = _; rw [hf]; rfl
theorem g_2 (h : g1 en = .ok t1) (h2 : g2 en = .ok t2) (hf : RoR s p (φ t1 t2)) : RvR s p (v2 φ g1 g2 en) := by
  rw [v2_at, h, h2]
  show RvR s p (oRv (φ t1 t2))
  cases p with
  | ok a => rw [show φ t1 t2 = some (s a) from hf]; rfl
  | ex x => exact hf.elim
  | no => trivial
theorem m_2a (h : RvR s p (g1 en)) (k : ∀ a, g1 en = .ok (s a) → RvR e1 (f a) (v2 φ g1 g2 en)) : RvR e1 (M.bind p f) (v2 φ g1 g2 en) := by
  cases p with
  | ok a => exact k a h
  | ex x => show v2 φ g1 g2 en = .ex x; rw [v2_at, show g1 en = .ex x from h]; rfl
  | no => trivial
theorem m_2b (h1 : g1 en = .ok t1) (h : RvR s p (g2 en)) (k : ∀ a, g2 en = .ok (s a) → RvR e1 (f a) (v2 φ g1 g2 en)) : RvR e1 (M.bind p f) (v2 φ g1 g2 en) := by
  cases p with
  | ok a => exact k a h
  | ex x => show v2 φ g1 g2 en = .ex x; rw [v2_at, h1, show g2 en = .ex x from h]; rfl
  | no => trivial
/-! ### tests -/
theorem tb_v {b : Bool} (h : g en = .ok (F eB b)) : vB g en = .ok b := by rw [vB_at, h]; rfl
theorem mb_v {p : M Bool} (h : RvR (F eB) p (g en)) : RbR p (vB g en) := by
  cases p with
  | ok a => exact tb_v h
  | ex x => show vB g en = .ex x; rw [vB_at, show g en = .ex x from h]; rfl
  | no => trivial
theorem tb_not {b : Bool} (h : q en = .ok b) : bNot q en = .ok (!b) := by rw [bNot_at, h]; rfl
theorem mb_not {p : M Bool} (h : RbR p (q en)) : RbR (p.bind fun b => .ok (!b)) (bNot q en) := by
  cases p with
  | ok a => exact tb_not h
  | ex x => show bNot q en = .ex x; rw [bNot_at, show q en = .ex x from h]; rfl
  | no => trivial
theorem tb_and {a b : Bool} (h : q1 en = .ok a) (h2 : q2 en = .ok b) : bAnd q1 q2 en = .ok (a && b) := by rw [bAnd_at, h, h2]; simp
theorem tb_or {a b : Bool} (h : q1 en = .ok a) (h2 : q2 en = .ok b) : bOr q1 q2 en = .ok (a || b) := by rw [bOr_at, h, h2]; simp
/-- the second only where it is asked for -/
def M.and (p q : M Bool) : M Bool := p.bind fun a => if a = true then q else .ok false
def M.or (p q : M Bool) : M Bool := p.bind fun a => if a = true then .ok true else q
theorem mb_and {p1 p2 : M Bool} (h : RbR p1 (q1 en)) (h2 : RbR p2 (q2 en)) : RbR (M.and p1 p2) (bAnd q1 q2 en) := by
  rw [bAnd_at]
  cases p1 with
  | ok a =>
    rw [show q1 en = .ok a from h]
    cases a with
    | true => exact h2
    | false => rfl
  | ex x => rw [show q1 en = .ex x from h]; rfl
  | no => trivial
theorem mb_or {p1 p2 : M Bool} (h : RbR p1 (q1 en)) (h2 : RbR p2 (q2 en)) : RbR (M.or p1 p2) (bOr q1 q2 en) := by
  rw [bOr_at]
  cases p1 with
  | ok a =>
    rw [show q1 en = .ok a from h]
    cases a with
    | true => rfl
    | false => exact h2
  | ex x => rw [show q1 en = .ex x from h]; rfl
  | no => trivial
theorem tv_b {b : Bool} (h : q en = .ok b) : bV q en = .ok (F eB b) := by rw [bV_at, h]; rfl
theorem mv_b {p : M Bool} (h : RbR p (q en)) : RvR (F eB) p (bV q en) := by
  cases p with
  | ok a => exact tv_b h
  | ex x => show bV q en = .ex x; rw [bV_at, show q en = .ex x from h]; rfl
  | no => trivial
theorem tv_and {a b : Bool} (h : q en = .ok a) (h2 : g en = .ok (F eB b)) : vAnd q g en = .ok (F eB (a && b)) := by rw [vAnd_at, h, h2]; cases a <;> rfl
theorem tv_or {a b : Bool} (h : q en = .ok a) (h2 : g en = .ok (F eB b)) : vOr q g en = .ok (F eB (a || b)) := by rw [vOr_at, h, h2]; cases a <;> rfl
theorem mv_and {p1 p2 : M Bool} (h : RbR p1 (q en)) (h2 : RvR (F eB) p2 (g en)) : RvR (F eB) (M.and p1 p2) (vAnd q g en) := by
  rw [vAnd_at]
  cases p1 with
  | ok a =>
    rw [show q en = .ok a from h]
    cases a with
    | true => exact h2
    | false => rfl
  | ex x => rw [show q en = .ex x from h]; rfl
  | no => trivial
theorem mv_or {p1 p2 : M Bool} (h : RbR p1 (q en)) (h2 : RvR (F eB) p2 (g en)) : RvR (F eB) (M.or p1 p2) (vOr q g en) := by
  rw [vOr_at]
  cases p1 with
  | ok a =>
    rw [show q en = .ok a from h]
    cases a with
    | true => rfl
    | false => exact h2
  | ex x => rw [show q en = .ex x from h]; rfl
  | no => trivial
theorem tv_if {b : Bool} {y z : α} (h : q en = .ok b) (h1 : g1 en = .ok (s y)) (h2 : g2 en = .ok (s z)) : vIf q g1 g2 en = .ok (s (if b = true then y else z)) := by
  rw [vIf_at, h, h1, h2]
  cases b <;> rfl
theorem mv_if {p : M Bool} {p1 p2 : M α} (h : RbR p (q en)) (h1 : RvR s p1 (g1 en)) (h2 : RvR s p2 (g2 en)) : RvR s (p.bind fun b => if b = true then p1 else p2) (vIf q g1 g2 en) := by
  rw [vIf_at]
  cases p with
  | ok a =>
    rw [show q en = .ok a from h]
    cases a with
    | true => exact h1
    | false => exact h2
  | ex x => rw [show q en = .ex x from h]; rfl
  | no => trivial
/-! ### arguments -/
def rvsB (r : Rvs) (c : List T → Rv) : Rv := match r with
  | .ok ts => c ts
  | .ex x => .ex x
  | .no => .no
theorem rvsB_cons {r : Rv} {rs : Rvs} {c : List T → Rv} : rvsB (cA' r rs) c = (match r with
    | .ok t => rvsB rs fun ts => c (t :: ts)
    | .ex x => .ex x
    | .no => .no) := by
  cases r with
  | ok t => cases rs <;> rfl
  | ex x => rfl
  | no => rfl
theorem a_t {p : M β} {c : List T → Rv} (h : g en = .ok t) (k : RvR e1 p (rvsB (gs en) fun ts => c (t :: ts))) : RvR e1 p (rvsB (aCons g gs en) c) := by rw [aCons_at, rvsB_cons, h]; exact k
theorem a_m {c : List T → Rv} (h : RvR s p (g en)) (k : ∀ a, RvR e1 (f a) (rvsB (gs en) fun ts => c (s a :: ts))) : RvR e1 (M.bind p f) (rvsB (aCons g gs en) c) := by
  rw [aCons_at, rvsB_cons]
  cases p with
  | ok a => rw [show g en = .ok (s a) from h]; exact k a
  | ex x => rw [show g en = .ex x from h]; rfl
  | no => trivial
theorem a_n {p : M β} {c : List T → Rv} (k : RvR e1 p (c [])) : RvR e1 p (rvsB (aNil en) c) := k
theorem c_f {p : M β} {r : List T → Cr} (k : RvR e1 p (rvsB (gs en) fun ts => (r ts).v)) : RvR e1 p (vCall r gs en) := by
  rw [vCall_at]
  cases e : gs en <;> rw [e] at k <;> exact k
theorem c_l {p : M β} (k : RvR e1 p (rvsB (gs en) fun ts => .ok (.n .ow .lst ts))) : RvR e1 p (vLst gs en) := by
  rw [vLst_at]
  cases e : gs en <;> rw [e] at k <;> exact k
theorem c_t {p : M β} (k : RvR e1 p (rvsB (gs en) fun ts => .ok (mkTup ts))) : RvR e1 p (vTup gs en) := by
  rw [vTup_at]
  cases e : gs en <;> rw [e] at k <;> exact k
theorem c_x {p : M β} {c : String} {fis : List (Str × Nat)} (k : RvR e1 p (rvsB (gs en) fun ts => exV c fis (.ok ts))) : RvR e1 p (vExc c fis gs en) := by
  rw [vExc_at]
  cases e : gs en <;> rw [e] at k <;> exact k
end
end DT
/-! Data trees, part 28: typed readings of statements. -/
namespace DT
open PySem L2
section
variable {α β γ σ τ ρ κ ν : Type} {e : α → D} {s : α → T} {en : En} {P : Po σ β ρ} {o : O σ β ρ} {st st2 rest : En → So} {g gi gv : En → Rv} {q : En → Rb} {p : M α} {f : α → O σ β ρ} {i j : Nat} {t u : T}
theorem j_last (h : SoR P o (sSeq st sNx en)) : SoR P o (st en) := by
  rw [sSeq_at] at h
  cases e : st en <;> rw [e] at h <;> exact h
theorem j_assoc (h : SoR P o (sSeq st (sSeq st2 rest) en)) : SoR P o (sSeq (sSeq st st2) rest en) := by
  rw [sSeq_at] at h ⊢
  rw [sSeq_at]
  cases e : st en <;> rw [e] at h <;> exact h
theorem j_nx (h : SoR P o (rest en)) : SoR P o (sSeq sNx rest en) := h
theorem j_end {a : σ} (h : P.nx a en) : SoR P (.nx a) (sNx en) := ⟨_, rfl, h⟩
theorem j_asg (h : RvR s p (g en)) (hl : ∀ a, noLk (s a) = true) (hx : P.ex en) (k : ∀ a, SoR P (f a) (rest (en.set i (some (s a))))) : SoR P (O.bind p f) (sSeq (sAsg i (liftV g)) rest en) := by
  rw [sSeq_at, sAsg_at, liftV_at]
  cases p with
  | ok a =>
    rw [show g en = .ok (s a) from h, lR_ok, aS_ok, if_pos (hl a)]
    exact k a
  | ex x =>
    rw [show g en = .ex x from h]
    exact ⟨en, rfl, hx⟩
  | no => trivial
theorem j_asgFz {a : α} (h : en[j]? = some (some t)) (nl : noLk t = true) (he : T.f (era t) = s a) (k : ∀ a, SoR P (f a) (rest ((en.set j (some (s a))).set i (some (s a))))) : SoR P (O.bind (.ok a) f) (sSeq (sAsg i (dFz j)) rest en) := by
  rw [sSeq_at, sAsg_at, dFz_at, h, fzR_some, if_pos nl, aS_ok, he, if_pos (by rw [← he]; rfl)]
  exact k a
def popG (xs : List α) : M (α × List α) := match xs.getLast? with
  | some a => .ok (a, xs.dropLast)
  | none => .no
theorem j_asgPop {xs : List α} {f : α × List α → O σ β ρ} (h : en[j]? = some (some (OL s xs))) (nl : ∀ a, noLk (s a) = true) (k : ∀ q, SoR P (f q) (rest ((en.set j (some (OL s q.2))).set i (some (s q.1))))) : SoR P (O.bind (popG xs) f) (sSeq (sAsg i (dPop j)) rest en) := by
  rw [sSeq_at, sAsg_at, dPop_at, h]
  unfold OL popG
  rw [poR_ow, List.getLast?_map]
  cases e : xs.getLast? with
  | none => trivial
  | some a =>
    show SoR P (f (a, xs.dropLast)) _
    rw [Option.map_some, poO_some, aS_ok, if_pos (nl a), ← List.map_dropLast]
    exact k (a, xs.dropLast)
theorem j_drop (h : RvR s p (g en)) (hx : P.ex en) (k : ∀ a, SoR P (f a) (rest en)) : SoR P (O.bind p f) (sSeq (sDrop (liftV g)) rest en) := by
  rw [sSeq_at, sDrop_at, liftV_at]
  cases p with
  | ok a =>
    rw [show g en = .ok (s a) from h]
    exact k a
  | ex x =>
    rw [show g en = .ex x from h]
    exact ⟨en, rfl, hx⟩
  | no => trivial
theorem j_dropLm {φ : List T → List T} {ψ : List α → List α} {xs : List α} (h : en[i]? = some (some (OL s xs))) (hf : ∀ xs : List α, φ (xs.map s) = (ψ xs).map s) {f : List α → O σ β ρ} (k : ∀ ys, SoR P (f ys) (rest (en.set i (some (OL s ys))))) : SoR P (O.bind (.ok (ψ xs)) f) (sSeq (sDrop (dLm φ i)) rest en) := by
  rw [sSeq_at, sDrop_at, dLm_at, h]
  unfold OL
  rw [lmR_ow, hf]
  exact k (ψ xs)
theorem lm_clear (xs : List α) : (fun _ : List T => ([] : List T)) (xs.map s) = ((fun _ : List α => ([] : List α)) xs).map s := rfl
theorem lm_rev (xs : List α) : List.reverse (xs.map s) = (List.reverse xs).map s := (List.map_reverse).symm
theorem j_ret {P : Po σ β α} (h : RvR s p (g en)) (hx : P.ex en) (nl : ∀ a, noLk (s a) = true) (hr : ∀ a, P.rt a (s a) en) : SoR P (O.bind p .rt) (sRet (liftV g) en) := by
  rw [sRet_at, liftV_at]
  cases p with
  | ok a =>
    rw [show g en = .ok (s a) from h, lR_ok, reS_ok, if_pos (nl a)]
    exact ⟨_, _, rfl, nl a, hr a⟩
  | ex x =>
    rw [show g en = .ex x from h]
    exact ⟨en, rfl, hx⟩
  | no => trivial
theorem j_retMv {a : ρ} (h : en[i]? = some (some t)) (nl : noLk t = true) (hr : P.rt a t (en.set i none)) : SoR P (.rt a) (sRet (dMv i) en) := by
  rw [sRet_at, dMv_at, h, mvR_some, reS_ok, if_pos nl]
  exact ⟨_, _, rfl, nl, hr⟩
theorem j_retN {a : ρ} (hr : P.rt a .o en) : SoR P (.rt a) (.rt .o en) := ⟨_, _, rfl, rfl, hr⟩
theorem j_brk {a : β} (h : P.bk a en) : SoR P (.bk a) (.bk en) := ⟨_, rfl, h⟩
def Po.only (P : Po σ β ρ) : Po σ β ρ := { P with nx := fun _ _ => False }
theorem SoR.only {r : So} (h : SoR P.only o r) : SoR P o (sqS r rest) := by
  cases o with
  | nx a =>
    obtain ⟨_, _, z⟩ := h
    exact z.elim
  | bk b =>
    obtain ⟨e, rfl, z⟩ := h
    exact ⟨e, rfl, z⟩
  | rt b =>
    obtain ⟨t, e, rfl, z⟩ := h
    exact ⟨t, e, rfl, z⟩
  | ex b =>
    obtain ⟨e, rfl, z⟩ := h
    exact ⟨e, rfl, z⟩
  | no => trivial
theorem j_tm {p : M Bool} {f : Bool → O σ β ρ} (h : RbR p (q en)) (hx : P.ex en) (k : ∀ b, q en = .ok b → SoR P (f b) (sSeq (sIf q st st2) rest en)) : SoR P (O.bind p f) (sSeq (sIf q st st2) rest en) := by
  cases p with
  | ok b => exact k b h
  | ex x =>
    rw [sSeq_at, sIf_at, show q en = .ex x from h]
    exact ⟨en, rfl, hx⟩
  | no => trivial
theorem j_tm' {p : M Bool} {f : Bool → O σ β ρ} (h : RbR p (q en)) (hx : P.ex en) (k : ∀ b, q en = .ok b → SoR P (f b) (sIf q st st2 en)) : SoR P (O.bind p f) (sIf q st st2 en) := by
  cases p with
  | ok b => exact k b h
  | ex x =>
    rw [sIf_at, show q en = .ex x from h]
    exact ⟨en, rfl, hx⟩
  | no => trivial
theorem j_if1 {b : Bool} {A B : O σ β ρ} (h : q en = .ok b) (k1 : SoR P.only A (st en)) (k2 : SoR P B (sSeq st2 rest en)) : SoR P (if b = true then A else B) (sSeq (sIf q st st2) rest en) := by
  rw [sSeq_at, sIf_at, h, ifS_ok]
  cases b with
  | true => exact k1.only
  | false => rw [sSeq_at] at k2; exact k2
theorem j_if2 {b : Bool} {A B : O σ β ρ} (h : q en = .ok b) (k1 : SoR P A (sSeq st rest en)) (k2 : SoR P.only B (st2 en)) : SoR P (if b = true then A else B) (sSeq (sIf q st st2) rest en) := by
  rw [sSeq_at, sIf_at, h, ifS_ok]
  cases b with
  | true => rw [sSeq_at] at k1; exact k1
  | false => exact k2.only
theorem j_if {b : Bool} {A B : O σ β ρ} (h : q en = .ok b) (k1 : SoR P A (st en)) (k2 : SoR P B (st2 en)) : SoR P (if b = true then A else B) (sIf q st st2 en) := by
  rw [sIf_at, h, ifS_ok]
  cases b with
  | true => exact k1
  | false => exact k2
theorem j_cut {A : O τ β ρ} {f : τ → O σ β ρ} (R : τ → En → Prop) (k1 : SoR ⟨R, P.bk, P.rt, P.ex⟩ A (st en)) (k2 : ∀ a e, R a e → SoR P (f a) (rest e)) : SoR P (O.seq A f) (sSeq st rest en) := by
  rw [sSeq_at]
  cases A with
  | nx a =>
    obtain ⟨e, h, z⟩ := k1
    rw [h]
    exact k2 a e z
  | bk b =>
    obtain ⟨e, h, z⟩ := k1
    rw [h]
    exact ⟨e, rfl, z⟩
  | rt b =>
    obtain ⟨t, e, h, z⟩ := k1
    rw [h]
    exact ⟨t, e, rfl, z⟩
  | ex b =>
    obtain ⟨e, h, z⟩ := k1
    rw [h]
    exact ⟨e, rfl, z⟩
  | no => trivial
/-! ### loops -/
theorem lp_sim {b : T → En → Option En} {sb : En → So} {fb : α → τ → O τ τ ρ} {R : τ → En → Prop} (hb : ∀ a y e, R y e → ∃ e1, b (s a) e = some e1 ∧ SoR ⟨R, R, P.rt, P.ex⟩ (fb a y) (sb e1)) : ∀ (xs : List α) (y : τ) (en : En), R y en → SoR ⟨R, P.bk, P.rt, P.ex⟩ (forO fb xs y) (lp b sb (xs.map s) en)
  | [], y, en, h => ⟨en, rfl, h⟩
  | x :: xs, y, en, h => by
    obtain ⟨e1, h1, h2⟩ := hb x y en h
    rw [List.map_cons]
    unfold lp forO
    rw [h1]
    dsimp only
    cases e : fb x y with
    | nx z =>
      rw [e] at h2
      obtain ⟨e2, h3, h4⟩ := h2
      rw [h3]
      exact lp_sim hb xs z e2 h4
    | bk z =>
      rw [e] at h2
      obtain ⟨e2, h3, h4⟩ := h2
      rw [h3]
      exact ⟨e2, rfl, h4⟩
    | rt z =>
      rw [e] at h2
      obtain ⟨t, e2, h3, h4⟩ := h2
      rw [h3]
      exact ⟨t, e2, rfl, h4⟩
    | ex z =>
      rw [e] at h2
      obtain ⟨e2, h3, h4⟩ := h2
      rw [h3]
      exact ⟨e2, rfl, h4⟩
    | no => trivial
theorem j_for {b : T → En → Option En} {sb : En → So} {gi : En → Ri} {fb : α → τ → O τ τ ρ} {p : M (List α)} {y0 : τ} {k : τ → O σ β ρ} (R : τ → En → Prop) (hi : RiR s p (gi en)) (hx : P.ex en) (h0 : R y0 en) (hb : ∀ a y e, R y e → ∃ e1, b (s a) e = some e1 ∧ SoR ⟨R, R, P.rt, P.ex⟩ (fb a y) (sb e1)) (hk : ∀ y e, R y e → SoR P (k y) (rest e)) :
    SoR P (O.bind p fun xs => O.seq (forO fb xs y0) k) (sSeq (sFor gi b sb) rest en) := by
  cases p with
  | ok xs =>
    refine j_cut R ?_ hk
    rw [sFor_at, show gi en = .ok (xs.map s) from hi, foS_ok]
    exact lp_sim hb xs y0 en h0
  | ex x =>
    rw [sSeq_at, sFor_at, show gi en = .ex x from hi]
    exact ⟨en, rfl, hx⟩
  | no => trivial
theorem wh_sim {q : En → Rb} {sb : En → So} {c : τ → M Bool} {f : τ → O τ τ ρ} {R : τ → En → Prop} (hc : ∀ y e, R y e → RbR (c y) (q e)) (hx : ∀ y e, R y e → P.ex e) (hb : ∀ y e, R y e → SoR ⟨R, R, P.rt, P.ex⟩ (f y) (sb e)) : ∀ (n : Nat) (y : τ) (en : En), R y en → SoR ⟨R, P.bk, P.rt, P.ex⟩ (whN (β := β) c f n y) (wh q sb n en)
  | 0, y, en, h => trivial
  | n + 1, y, en, h => by
    have h1 := hc y en h
    have h2 := hb y en h
    unfold whN wh
    cases e : c y with
    | ok b =>
      rw [e] at h1
      rw [show q en = .ok b from h1]
      cases b with
      | false => exact ⟨en, rfl, h⟩
      | true =>
        dsimp only
        cases e2 : f y with
        | nx z =>
          rw [e2] at h2
          obtain ⟨e3, h3, h4⟩ := h2
          rw [h3]
          exact wh_sim hc hx hb n z e3 h4
        | bk z =>
          rw [e2] at h2
          obtain ⟨e3, h3, h4⟩ := h2
          rw [h3]
          exact ⟨e3, rfl, h4⟩
        | rt z =>
          rw [e2] at h2
          obtain ⟨t, e3, h3, h4⟩ := h2
          rw [h3]
          exact ⟨t, e3, rfl, h4⟩
        | ex z =>
          rw [e2] at h2
          obtain ⟨e3, h3, h4⟩ := h2
          rw [h3]
          exact ⟨e3, rfl, h4⟩
        | no => trivial
    | ex x =>
      rw [e] at h1
      rw [show q en = .ex x from h1]
      exact ⟨en, rfl, hx y en h⟩
    | no => trivial
theorem SoR.ne {r : So} (h : SoR P o r) (hn : o ≠ .no) : r ≠ .no := by
  cases o with
  | no => exact absurd rfl hn
  | nx a => obtain ⟨_, rfl, _⟩ := h; exact fun z => by cases z
  | bk a => obtain ⟨_, rfl, _⟩ := h; exact fun z => by cases z
  | rt a => obtain ⟨_, _, rfl, _⟩ := h; exact fun z => by cases z
  | ex a => obtain ⟨_, rfl, _⟩ := h; exact fun z => by cases z
theorem j_wh {q : En → Rb} {sb : En → So} {c : τ → M Bool} {f : τ → O τ τ ρ} {y0 : τ} {k : τ → O σ β ρ} (R : τ → En → Prop) (h0 : R y0 en) (hc : ∀ y e, R y e → RbR (c y) (q e)) (hx : ∀ y e, R y e → P.ex e) (hb : ∀ y e, R y e → SoR ⟨R, R, P.rt, P.ex⟩ (f y) (sb e)) (hk : ∀ y e, R y e → SoR P (k y) (rest e)) :
    SoR P (O.seq (whO c f y0) k) (sSeq (sWh q sb) rest en) := by
  by_cases hn : whO (β := β) c f y0 = .no
  · rw [hn]
    trivial
  · refine j_cut R ?_ hk
    obtain ⟨n, e⟩ := whO_at hn
    rw [← e]
    have h1 := wh_sim (P := P) hc hx hb n y0 en h0
    rw [sWh_of rfl (h1.ne (by rw [e]; exact hn))]
    exact h1
/-! ### lists, dicts that change -/
def appG (xs : List α) (a : α) : M (List α) := if xs.length < LINE then .ok (xs ++ [a]) else .no
theorem j_app {xs : List α} {p : M α} {f : List α → O σ β ρ} (h : en[i]? = some (some (OL s xs))) (hg : RvR s p (g en)) (nl : ∀ a, noLk (s a) = true) (hx : P.ex en) (k : ∀ ys, SoR P (f ys) (rest (en.set i (some (OL s ys))))) : SoR P (O.bind (p.bind fun a => appG xs a) f) (sSeq (sApp i g) rest en) := by
  rw [sSeq_at]
  unfold sApp
  rw [h]
  unfold OL
  dsimp only
  cases p with
  | ok a =>
    rw [show g en = .ok (s a) from hg]
    dsimp only
    show SoR P (O.bind (appG xs a) f) _
    unfold appG
    rw [List.length_map]
    by_cases hl : xs.length < LINE
    · rw [if_pos hl, if_pos ⟨nl a, hl⟩]
      have := k (xs ++ [a])
      unfold OL at this
      rw [List.map_append] at this
      exact this
    · rw [if_neg hl]
      trivial
  | ex x =>
    rw [show g en = .ex x from hg]
    exact ⟨en, rfl, hx⟩
  | no => trivial
def setG (xs : List α) (i : Int) (a : α) : M (List α) := match ixN xs.length i with
  | some j => .ok (xs.set j a)
  | none => .no
theorem j_putL {xs : List α} {a : α} {z : Int} {f : List α → O σ β ρ} (h : en[i]? = some (some (OL s xs))) (hv : gv en = .ok (s a)) (hi : gi en = .ok (F eI z)) (nl : ∀ a, noLk (s a) = true) (k : ∀ ys, SoR P (f ys) (rest (en.set i (some (OL s ys))))) : SoR P (O.bind (setG xs z a) f) (sSeq (sPut i gi gv) rest en) := by
  rw [sSeq_at]
  unfold sPut
  rw [hv, hi, h]
  unfold OL setG putT
  dsimp only
  rw [List.length_map]
  cases e : ixN xs.length z with
  | none => trivial
  | some j =>
    show SoR P (f (xs.set j a)) _
    dsimp only [Option.map]
    rw [if_pos (nl a)]
    have := k (xs.set j a)
    unfold OL at this
    rw [List.map_set] at this
    exact this
theorem j_put_m1 {p : M α} {f : α → O σ β ρ} (hv : RvR s p (gv en)) (hx : P.ex en) (k : ∀ a, gv en = .ok (s a) → SoR P (f a) (sSeq (sPut i gi gv) rest en)) : SoR P (O.bind p f) (sSeq (sPut i gi gv) rest en) := by
  cases p with
  | ok a => exact k a hv
  | ex x =>
    rw [sSeq_at]
    unfold sPut
    rw [show gv en = .ex x from hv]
    exact ⟨en, rfl, hx⟩
  | no => trivial
/-- an index that may have no value: what raises there is not said -/
def M.val (p : M α) : M α := match p with
  | .ok a => .ok a
  | _ => .no
theorem j_put_m2 {p : M α} {f : α → O σ β ρ} (hi : RvR s p (gi en)) (k : ∀ a, gi en = .ok (s a) → SoR P (f a) (sSeq (sPut i gi gv) rest en)) : SoR P (O.bind p.val f) (sSeq (sPut i gi gv) rest en) := by
  cases p with
  | ok a => exact k a hi
  | ex x => trivial
  | no => trivial
/-! ### raise, try -/
def osB (r : Rvs) (c : List T → So) (en : En) : So := match r with
  | .ok ts => c ts
  | .ex x => .ex x en
  | .no => .no
theorem oa_t {gs : En → Rvs} {c : List T → So} (h : g en = .ok t) (k : SoR P o (osB (gs en) (fun ts => c (t :: ts)) en)) : SoR P o (osB (aCons g gs en) c en) := by
  rw [aCons_at, h]
  cases e : gs en <;> rw [e] at k <;> exact k
theorem oa_m {gs : En → Rvs} {c : List T → So} (h : RvR s p (g en)) (hx : P.ex en) (k : ∀ a, SoR P (f a) (osB (gs en) (fun ts => c (s a :: ts)) en)) : SoR P (O.bind p f) (osB (aCons g gs en) c en) := by
  cases p with
  | ok a => exact oa_t (show g en = .ok (s a) from h) (k a)
  | ex x =>
    rw [aCons_at, show g en = .ex x from h]
    exact ⟨en, rfl, hx⟩
  | no => trivial
theorem oa_n {c : List T → So} (k : SoR P o (c [])) : SoR P o (osB (aNil en) c en) := k
theorem j_raise {gs : En → Rvs} {c : String} {fis : List (Str × Nat)} (k : SoR P o (osB (gs en) (fun ts => raS c fis (.ok ts) en) en)) : SoR P o (sRaise c fis gs en) := by
  rw [sRaise_at]
  cases e : gs en <;> rw [e] at k <;> exact k
theorem j_ex {x : Ex} (hx : P.ex en) : SoR P (.ex x) (.ex x en) := ⟨_, rfl, hx⟩
def tryP (ca : String → Option Bool) (A : O σ β ρ) (H : Ex → O σ β ρ) : O σ β ρ := match A with
  | .ex x => (match ca x.c with
    | some true => H x
    | some false => .ex x
    | none => .no)
  | r => r
theorem j_tryAs {ca : String → Option Bool} {A : O σ β ρ} {H : Ex → O σ β ρ} {sb su : En → So} (Rx : En → Prop) (k1 : SoR ⟨P.nx, P.bk, P.rt, Rx⟩ A (sb en)) (hx : ∀ e, Rx e → P.ex e)
    (k2 : ∀ x e, Rx e → SoR ⟨fun a e => P.nx a (clr (e.set i none)), fun a e => P.bk a (clr (e.set i none)), fun a t e => nxT t = true ∧ P.rt a t (clr (e.set i none)), fun _ => False⟩ (H x) (su (e.set i (some (F eX x))))) : SoR P (tryP ca A H) (sTryAs i ca sb su en) := by
  rw [sTryAs_at]
  cases A with
  | nx a => obtain ⟨e, h, z⟩ := k1; rw [h]; exact ⟨e, rfl, z⟩
  | bk a => obtain ⟨e, h, z⟩ := k1; rw [h]; exact ⟨e, rfl, z⟩
  | rt a => obtain ⟨t, e, h, z⟩ := k1; rw [h]; exact ⟨t, e, rfl, z⟩
  | no => trivial
  | ex x =>
    obtain ⟨e, h, z⟩ := k1
    rw [h]
    unfold trS tryP
    dsimp only
    cases ec : ca x.c with
    | none => trivial
    | some b =>
      cases b with
      | false => exact ⟨e, rfl, hx e z⟩
      | true =>
        have k3 := k2 x e z
        dsimp only
        cases eH : H x with
        | nx a =>
          rw [eH] at k3
          obtain ⟨e2, h2, z2⟩ := k3
          rw [show su (e.set i (some (.f (.n (.exc x.c x.fs) x.ds)))) = .nx e2 from h2]
          exact ⟨_, rfl, z2⟩
        | bk a =>
          rw [eH] at k3
          obtain ⟨e2, h2, z2⟩ := k3
          rw [show su (e.set i (some (.f (.n (.exc x.c x.fs) x.ds)))) = .bk e2 from h2]
          exact ⟨_, rfl, z2⟩
        | rt a =>
          rw [eH] at k3
          obtain ⟨t2, e2, h2, nl, z2, z3⟩ := k3
          rw [show su (e.set i (some (.f (.n (.exc x.c x.fs) x.ds)))) = .rt t2 e2 from h2]
          unfold tryR
          dsimp only
          rw [if_pos z2]
          exact ⟨_, _, rfl, nl, z3⟩
        | ex y =>
          rw [eH] at k3
          obtain ⟨e2, h2, z2⟩ := k3
          exact z2.elim
        | no => trivial
theorem j_tryO {ca : String → Option Bool} {A : O σ β ρ} {H : O σ β ρ} {sb su : En → So} (Rx : En → Prop) (k1 : SoR ⟨P.nx, P.bk, P.rt, Rx⟩ A (sb en)) (hx : ∀ e, Rx e → P.ex e)
    (k2 : ∀ e, Rx e → SoR ⟨P.nx, P.bk, P.rt, fun _ => False⟩ H (su e)) : SoR P (tryP ca A fun _ => H) (sTryO ca sb su en) := by
  unfold sTryO
  cases A with
  | nx a => obtain ⟨e, h, z⟩ := k1; rw [h]; exact ⟨e, rfl, z⟩
  | bk a => obtain ⟨e, h, z⟩ := k1; rw [h]; exact ⟨e, rfl, z⟩
  | rt a => obtain ⟨t, e, h, z⟩ := k1; rw [h]; exact ⟨t, e, rfl, z⟩
  | no => trivial
  | ex x =>
    obtain ⟨e, h, z⟩ := k1
    rw [h]
    unfold tryP
    dsimp only
    cases ec : ca x.c with
    | none => trivial
    | some b =>
      cases b with
      | false => exact ⟨e, rfl, hx e z⟩
      | true =>
        have k3 := k2 e z
        dsimp only
        cases eH : H with
        | nx a => rw [eH] at k3; obtain ⟨e2, h2, z2⟩ := k3; rw [h2]; exact ⟨_, rfl, z2⟩
        | bk a => rw [eH] at k3; obtain ⟨e2, h2, z2⟩ := k3; rw [h2]; exact ⟨_, rfl, z2⟩
        | rt a => rw [eH] at k3; obtain ⟨t2, e2, h2, z2⟩ := k3; rw [h2]; exact ⟨_, _, rfl, z2⟩
        | ex y => rw [eH] at k3; obtain ⟨e2, h2, z2⟩ := k3; exact z2.elim
        | no => trivial
/-! ### unpacking, freezing -/
theorem j_asgG {b : T → En → Option En} {en' : α → En} (h : RvR s p (g en)) (hl : ∀ a, noLk (s a) = true) (hx : P.ex en) (hb : ∀ a, b (s a) en = some (en' a)) (k : ∀ a, SoR P (f a) (rest (en' a))) : SoR P (O.bind p f) (sSeq (sAsgG b (liftV g)) rest en) := by
  rw [sSeq_at]
  unfold sAsgG
  rw [liftV_at]
  cases p with
  | ok a =>
    rw [show g en = .ok (s a) from h, lR_ok]
    dsimp only
    rw [if_pos (hl a), hb a]
    exact k a
  | ex x =>
    rw [show g en = .ex x from h]
    exact ⟨en, rfl, hx⟩
  | no => trivial
theorem j_asgGFz {b : T → En → Option En} {en' : En} {a : α} (h : en[j]? = some (some t)) (nl : noLk t = true) (he : T.f (era t) = s a) (hb : b (s a) (en.set j (some (s a))) = some en') (k : SoR P o (rest en')) : SoR P o (sSeq (sAsgG b (dFz j)) rest en) := by
  rw [sSeq_at]
  unfold sAsgG
  rw [dFz_at, h, fzR_some, if_pos nl, he]
  dsimp only
  rw [if_pos (by rw [← he]; rfl), hb]
  exact k
theorem j_fz (h : en[i]? = some (some t)) (nl : noLk t = true) (he : T.f (era t) = u) (k : SoR P o (sSeq st rest (en.set i (some u)))) : SoR P o (sSeq (sFz i st) rest en) := by
  rw [sSeq_at] at k ⊢
  unfold sFz
  rw [h]
  dsimp only
  rw [if_pos nl, he]
  exact k
theorem j_fzN (h : en[i]? = some none) (k : SoR P o (sSeq st rest en)) : SoR P o (sSeq (sFz i st) rest en) := by
  rw [sSeq_at] at k ⊢
  unfold sFz
  rw [h]
  exact k
theorem j_fzL (h : en[i]? = some (some t)) (nl : noLk t = false) (k : SoR P o (sSeq st rest en)) : SoR P o (sSeq (sFz i st) rest en) := by
  rw [sSeq_at] at k ⊢
  unfold sFz
  rw [h]
  dsimp only
  rw [if_neg (by rw [nl]; exact Bool.false_ne_true)]
  exact k
theorem j_fzE {k' : Kd} {ts us : List T} (h : en[i]? = some (some (.n .ow k' ts))) (nl : noLks ts = true) (he : (eras ts).map T.f = us) (k : SoR P o (sSeq st rest (en.set i (some (.n .ow k' us))))) : SoR P o (sSeq (sFzE i st) rest en) := by
  rw [sSeq_at] at k ⊢
  rw [sFzE_at, h, fzE_ow, if_pos nl, he]
  exact k
theorem j_fzEN (h : ∀ s : En → So, fzE i s en[i]? en = s en) (k : SoR P o (sSeq st rest en)) : SoR P o (sSeq (sFzE i st) rest en) := by
  rw [sSeq_at] at k ⊢
  rw [sFzE_at, h]
  exact k
/-! ### defs -/
theorem fn_ok {E : ρ → T} {d : ρ} {o : O Unit Empty ρ} {n : Nat} {ws : List Nat} {r : So} (hd : E d = .o ∨ ∀ a, o ≠ .nx a) (h : SoR ⟨fun _ _ => True, fun _ _ => True, fun v t _ => t = E v, fun _ => True⟩ o r) : RvR E (fnO d o) (fin n ws r).v := by
  cases o with
  | nx a =>
    obtain ⟨e, rfl, _⟩ := h
    rcases hd with hd | hd
    · show _ = Rv.ok (E d)
      rw [hd]
      rfl
    · exact absurd rfl (hd a)
  | bk a => exact a.elim
  | rt a =>
    obtain ⟨t, e, rfl, _, rfl⟩ := h
    rfl
  | ex x =>
    obtain ⟨e, rfl, _⟩ := h
    rfl
  | no => trivial
/-! ### comprehensions -/
def lcM (c : α → M Bool) (f : α → M β) : List α → M (List β)
  | [] => .ok []
  | a :: as => match c a with
    | .ok true => (match f a with
      | .ok y => (match lcM c f as with
        | .ok ys => .ok (y :: ys)
        | _ => .no)
      | _ => .no)
    | .ok false => lcM c f as
    | _ => .no
def lcG (c : α → M Bool) (f : α → M β) (xs : List α) : M (List β) := match lcM c f xs with
  | .ok ys => if ys.length ≤ LINE then .ok ys else .no
  | _ => .no
theorem lcS_sim {vs : List Nat} {b : T → En → Option En} {pt : En → Rb} {s2 : β → T} {c : α → M Bool} {f : α → M β} (nl : ∀ y, noLk (s2 y) = true) (hb : ∀ a, ∃ e1, b (s a) (wip en vs) = some e1 ∧ RbR (c a) (pt e1) ∧ RvR s2 (f a) (g e1)) : ∀ (xs : List α) (ys : List β), lcM c f xs = .ok ys → lcS vs b pt g (xs.map s) en = some (ys.map s2)
  | [], ys, h => by cases h; rfl
  | a :: as, ys, h => by
    obtain ⟨e1, h1, h2, h3⟩ := hb a
    unfold lcM at h
    rw [List.map_cons]
    unfold lcS
    rw [h1]
    dsimp only
    cases ec : c a with
    | ok w =>
      rw [ec] at h h2
      rw [show pt e1 = .ok w from h2]
      cases w with
      | true =>
        dsimp only at h ⊢
        cases ef : f a with
        | ok y =>
          rw [ef] at h h3
          rw [show g e1 = .ok (s2 y) from h3]
          dsimp only at h ⊢
          rw [if_pos (nl y)]
          cases el : lcM c f as with
          | ok zs =>
            rw [el] at h
            cases h
            rw [lcS_sim nl hb as zs el]
            rfl
          | ex x => rw [el] at h; cases h
          | no => rw [el] at h; cases h
        | ex x => rw [ef] at h; cases h
        | no => rw [ef] at h; cases h
      | false => exact lcS_sim nl hb as ys h
    | ex x => rw [ec] at h; cases h
    | no => rw [ec] at h; cases h
theorem c_lc {vs : List Nat} {b : T → En → Option En} {pt : En → Rb} {s2 : β → T} {c : α → M Bool} {f : α → M β} {gr : En → Ri} {p : M (List α)} (hi : RiR s p (gr en)) (nl : ∀ y, noLk (s2 y) = true) (hb : ∀ a, ∃ e1, b (s a) (wip en vs) = some e1 ∧ RbR (c a) (pt e1) ∧ RvR s2 (f a) (g e1)) : RvR (OL s2) (p.bind fun xs => lcG c f xs) (vLc gr vs b pt g en) := by
  unfold vLc
  cases p with
  | ok xs =>
    rw [show gr en = .ok (xs.map s) from hi]
    show RvR _ (lcG c f xs) _
    unfold lcG
    dsimp only
    cases el : lcM c f xs with
    | ok ys =>
      rw [lcS_sim nl hb xs ys el]
      dsimp only
      rw [List.length_map]
      by_cases hl : ys.length ≤ LINE
      · rw [if_pos hl, if_pos hl]
        rfl
      · rw [if_neg hl]
        trivial
    | ex x => trivial
    | no => trivial
  | ex x => rw [show gr en = .ex x from hi]; rfl
  | no => trivial
end
end DT
/-! Data trees, part 29: typed operators. -/
namespace DT
open PySem L2
section
variable {α β γ σ τ ρ κ ν : Type} {e : α → D} {s : α → T} {S : List α → T} {en : En} {i j : Int} {x y : Str} {xs ys : List α} {t u : T} {d d' : D}
def gd (c : Prop) [Decidable c] (a : α) : M α := if c then .ok a else .no
theorem ro_gd {c : Prop} [Decidable c] {a : α} {r : Option T} (h : c → r = some (s a)) : RoR s (gd c a) r := by
  unfold gd
  by_cases hc : c
  · rw [if_pos hc]; exact h hc
  · rw [if_neg hc]; trivial
def ofO (o : Option α) : M α := match o with
  | some a => .ok a
  | none => .no
theorem ro_of {o : Option α} {r : Option T} (h : ∀ a, o = some a → r = some (s a)) : RoR s (ofO o) r := by
  cases o with
  | some a => exact h a rfl
  | none => trivial
/-! ### whole numbers -/
theorem t_add : addT (F eI i) (F eI j) = some (F eI (i + j)) := rfl
theorem t_sub : subT (F eI i) (F eI j) = some (F eI (i - j)) := rfl
theorem t_lt : ltT (F eI i) (F eI j) = some (F eB (decide (i < j))) := rfl
theorem t_le : leT (F eI i) (F eI j) = some (F eB (decide (i ≤ j))) := rfl
theorem t_gt : gtT (F eI i) (F eI j) = some (F eB (decide (j < i))) := rfl
theorem t_ge : geT (F eI i) (F eI j) = some (F eB (decide (j ≤ i))) := rfl
theorem t_neg : negT (F eI i) = some (F eI (-i)) := rfl
def absI' (i : Int) : Int := if i < 0 then -i else i
theorem t_abs : absT (F eI i) = some (F eI (absI' i)) := rfl
def maxI2 (i j : Int) : Int := if j > i then j else i
def minI2 (i j : Int) : Int := if j < i then j else i
theorem t_max : maxT (F eI i) (F eI j) = some (F eI (maxI2 i j)) := rfl
theorem t_min : minT (F eI i) (F eI j) = some (F eI (minI2 i j)) := rfl
theorem t_band : bandT (F eI i) (F eI j) = some (F eI (Builtin.bitAnd i j)) := rfl
theorem t_bor : borT (F eI i) (F eI j) = some (F eI (Builtin.bitOr i j)) := rfl
theorem t_mul (h : mulC i j = true) : mulT (F eI i) (F eI j) = some (F eI (i * j)) := mulT_i h
def mulG (i j : Int) : M Int := gd (mulC i j = true) (i * j)
theorem g_mul : RoR (F eI) (mulG i j) (mulT (F eI i) (F eI j)) := ro_gd fun h => mulT_i h
theorem t_mod (h : 0 < j) : modT (F eI i) (F eI j) = some (F eI (i % j)) := modT_i h
def modG (i j : Int) : M Int := gd (0 < j) (i % j)
theorem g_mod : RoR (F eI) (modG i j) (modT (F eI i) (F eI j)) := ro_gd fun h => modT_i h
theorem t_fdiv (h : 0 < j ∧ j < 1073741824) : fdivT (F eI i) (F eI j) = some (F eI (i / j)) := fdivT_i h
def fdv (i j : Int) : Int := if 0 < j then i / j else i.fdiv j
def fdivG (i j : Int) : M Int := gd (j ≠ 0 ∧ j.natAbs.log2 < 9000) (fdv i j)
theorem g_fdiv : RoR (F eI) (fdivG i j) (fdivT (F eI i) (F eI j)) := ro_gd fun h => by
  show (if decide (j ≠ 0 ∧ j.natAbs.log2 < 9000) = true then some (T.f (.a (.int (if 0 < j then i / j else i.fdiv j)))) else none) = _
  rw [if_pos (decide_eq_true h)]
  rfl
theorem t_pow {n : Nat} (h : 0 ≤ j ∧ j ≤ 1000000 ∧ i.natAbs < 2 ^ 64) (hn : j.toNat = n) : powT (F eI i) (F eI j) = some (F eI (i ^ n)) := by rw [← hn]; exact powT_i h
def powG (i j : Int) : M Int := gd (0 ≤ j ∧ j ≤ 1000000 ∧ i.natAbs < 2 ^ 64) (i ^ j.toNat)
theorem g_pow : RoR (F eI) (powG i j) (powT (F eI i) (F eI j)) := ro_gd fun h => powT_i h
theorem t_eqI : eqT (F eI i) (F eI j) = some (F eB (decide (i = j))) := eqT_i
theorem t_neI : neT (F eI i) (F eI j) = some (F eB (!decide (i = j))) := neT_i
theorem t_eqS : eqT (F eS x) (F eS y) = some (F eB (decide (x = y))) := eqT_s
theorem t_neS : neT (F eS x) (F eS y) = some (F eB (!decide (x = y))) := neT_s
theorem t_eqB {x y : Bool} : eqT (F eB x) (F eB y) = some (F eB (decide (x = y))) := eqT_b
theorem t_neB {x y : Bool} : neT (F eB x) (F eB y) = some (F eB (!decide (x = y))) := neT_b
theorem fOI {a b : Option Int} : (eO eI a = eO eI b ↔ a = b) := by
  cases a <;> cases b <;> simp [eO]
theorem fOS {a b : Option Str} : (eO eS a = eO eS b ↔ a = b) := by
  cases a <;> cases b <;> simp [eO]
theorem t_eqOI {a b : Option Int} : eqT (F (eO eI) a) (F (eO eI) b) = some (F eB (decide (a = b))) := by
  cases a with
  | none =>
    cases b with
    | none => show eqT (.f (.a .non)) (.f (.a .non)) = _; rw [eqT_f rfl]; rfl
    | some b => show eqT (.f (.a .non)) (.f (.a (.int b))) = _; rw [eqT_f rfl]; simp
  | some a =>
    cases b with
    | none => show eqT (.f (.a (.int a))) (.f (.a .non)) = _; rw [eqT_f rfl]; simp
    | some b => show eqT (.f (.a (.int a))) (.f (.a (.int b))) = _; rw [eqT_f rfl]; simp
theorem t_neOI {a b : Option Int} : neT (F (eO eI) a) (F (eO eI) b) = some (F eB (!decide (a = b))) := by
  cases a with
  | none =>
    cases b with
    | none => show neT (.f (.a .non)) (.f (.a .non)) = _; rw [neT_f rfl]; rfl
    | some b => show neT (.f (.a .non)) (.f (.a (.int b))) = _; rw [neT_f rfl]; simp
  | some a =>
    cases b with
    | none => show neT (.f (.a (.int a))) (.f (.a .non)) = _; rw [neT_f rfl]; simp
    | some b => show neT (.f (.a (.int a))) (.f (.a (.int b))) = _; rw [neT_f rfl]; simp
theorem t_eqOS {a b : Option Str} : eqT (F (eO eS) a) (F (eO eS) b) = some (F eB (decide (a = b))) := by
  cases a with
  | none =>
    cases b with
    | none => show eqT (.f (.a .non)) (.f (.a .non)) = _; rw [eqT_f rfl]; rfl
    | some b => show eqT (.f (.a .non)) (.f (.a (.str b))) = _; rw [eqT_f rfl]; simp
  | some a =>
    cases b with
    | none => show eqT (.f (.a (.str a))) (.f (.a .non)) = _; rw [eqT_f rfl]; simp
    | some b => show eqT (.f (.a (.str a))) (.f (.a (.str b))) = _; rw [eqT_f rfl]; simp
theorem t_neOS {a b : Option Str} : neT (F (eO eS) a) (F (eO eS) b) = some (F eB (!decide (a = b))) := by
  cases a with
  | none =>
    cases b with
    | none => show neT (.f (.a .non)) (.f (.a .non)) = _; rw [neT_f rfl]; rfl
    | some b => show neT (.f (.a .non)) (.f (.a (.str b))) = _; rw [neT_f rfl]; simp
  | some a =>
    cases b with
    | none => show neT (.f (.a (.str a))) (.f (.a .non)) = _; rw [neT_f rfl]; simp
    | some b => show neT (.f (.a (.str a))) (.f (.a (.str b))) = _; rw [neT_f rfl]; simp
theorem eqT_nf {t u : T} (h : eqF t u = none) : eqT t u = if (shD (era t) && shD (era u)) = true then some (.b (eqD (era t) (era u))) else none := by unfold eqT; rw [h]
theorem neT_nf {t u : T} (h : eqF t u = none) : neT t u = if (shD (era t) && shD (era u)) = true then some (.b (!eqD (era t) (era u))) else none := by unfold neT; rw [h]
/-- == of data -/
def eqG (d d' : D) : M Bool := gd ((shD d && shD d') = true) (eqD d d')
def neG (d d' : D) : M Bool := gd ((shD d && shD d') = true) (!eqD d d')
theorem g_eq (h : nofl t = true ∨ nofl u = true) (h1 : era t = d) (h2 : era u = d') : RoR (F eB) (eqG d d') (eqT t u) := ro_gd fun c => by rw [eqT_nf (eqF_no h), h1, h2, if_pos c]
theorem g_ne (h : nofl t = true ∨ nofl u = true) (h1 : era t = d) (h2 : era u = d') : RoR (F eB) (neG d d') (neT t u) := ro_gd fun c => by rw [neT_nf (eqF_no h), h1, h2, if_pos c]
def tB (o : Option T) : M Bool := match o with
  | some (.f (.a (.bl b))) => .ok b
  | _ => .no
theorem ro_tB {o : Option T} : RoR (F eB) (tB o) o := by
  unfold tB
  split
  · rfl
  · trivial
/-- data of any kind -/
def eqDG (d d' : D) : M Bool := tB (eqT (.f d) (.f d'))
def neDG (d d' : D) : M Bool := tB (neT (.f d) (.f d'))
theorem g_eqD : RoR (F eB) (eqDG d d') (eqT (F eD d) (F eD d')) := ro_tB
theorem g_neD : RoR (F eB) (neDG d d') (neT (F eD d) (F eD d')) := ro_tB
/-! ### None -/
theorem t_isNF {z : Unit} : isNT (F (eO e) none) (F eU z) = some (F eB true) := rfl
theorem t_isN {a : Option α} {z : Unit} (h : ∀ a, e a ≠ .a .non) : isNT (F (eO e) a) (F eU z) = some (F eB a.isNone) := by
  cases a with
  | none => rfl
  | some a =>
    have h1 := h a
    show isNT (.f (e a)) (.f (.a .non)) = some (.f (.a (.bl false)))
    cases hd : e a with
    | a x =>
      rw [hd] at h1
      have h2 : x ≠ .non := fun z => h1 (by rw [z])
      unfold isNT
      dsimp only
      rw [decide_eq_false h2]
    | n k ds => rfl
theorem t_notN {a : Option α} {z : Unit} (h : ∀ a, e a ≠ .a .non) : notNT (F (eO e) a) (F eU z) = some (F eB a.isSome) := by
  cases a with
  | none => rfl
  | some a =>
    have h1 := h a
    show notNT (.f (e a)) (.f (.a .non)) = some (.f (.a (.bl true)))
    cases hd : e a with
    | a x =>
      rw [hd] at h1
      have h2 : x ≠ .non := fun z => h1 (by rw [z])
      unfold notNT
      dsimp only
      rw [decide_eq_false h2]
      rfl
    | n k ds => rfl
def isND (d : D) : Bool := match d with
  | .a .non => true
  | _ => false
theorem t_isND {z : Unit} : isNT (F eD d) (F eU z) = some (F eB (isND d)) := by
  cases d with
  | a x => cases x <;> rfl
  | n k ds => rfl
theorem t_notND {z : Unit} : notNT (F eD d) (F eU z) = some (F eB (!isND d)) := by
  cases d with
  | a x => cases x <;> rfl
  | n k ds => rfl
theorem nnI (i : Int) : eI i ≠ .a .non := fun z => by cases z
theorem nnS (i : Str) : eS i ≠ .a .non := fun z => by cases z
theorem nnB (i : Bool) : eB i ≠ .a .non := fun z => by cases z
theorem nnL (i : List α) : eL e i ≠ .a .non := fun z => by cases z
def unO (o : Option α) : M α := ofO o
theorem rv_unO {p : M (Option α)} {r : Rv} (h : RvR (F (eO e)) p r) : RvR (F e) (p.bind unO) r := by
  cases p with
  | ok a =>
    cases a with
    | none => trivial
    | some a => exact h
  | ex x => exact h
  | no => trivial
def unI (d : D) : M Int := match d with
  | .a (.int i) => .ok i
  | _ => .no
def unS (d : D) : M Str := match d with
  | .a (.str i) => .ok i
  | _ => .no
def unB (d : D) : M Bool := match d with
  | .a (.bl i) => .ok i
  | _ => .no
theorem rv_un {f : D → M α} (hf : ∀ d a, f d = .ok a → d = e a) (hx : ∀ d x, f d ≠ .ex x) {p : M D} {r : Rv} (h : RvR (F eD) p r) : RvR (F e) (p.bind f) r := by
  cases p with
  | ok d =>
    show RvR (F e) (f d) r
    cases ef : f d with
    | ok a => rw [show r = .ok (F eD d) from h]; show _ = Rv.ok (T.f (e a)); rw [← hf d a ef]; rfl
    | ex x => exact absurd ef (hx d x)
    | no => trivial
  | ex x => exact h
  | no => trivial
theorem rv_unI {p : M D} {r : Rv} (h : RvR (F eD) p r) : RvR (F eI) (p.bind unI) r := rv_un (fun d a h => by unfold unI at h; split at h <;> cases h; rfl) (fun d x h => by unfold unI at h; split at h <;> cases h) h
theorem rv_unS {p : M D} {r : Rv} (h : RvR (F eD) p r) : RvR (F eS) (p.bind unS) r := rv_un (fun d a h => by unfold unS at h; split at h <;> cases h; rfl) (fun d x h => by unfold unS at h; split at h <;> cases h) h
theorem rv_unB {p : M D} {r : Rv} (h : RvR (F eD) p r) : RvR (F eB) (p.bind unB) r := rv_un (fun d a h => by unfold unB at h; split at h <;> cases h; rfl) (fun d x h => by unfold unB at h; split at h <;> cases h) h
theorem rv_D {p : M α} {r : Rv} (h : RvR (F e) p r) : RvR (F eD) (p.bind fun a => .ok (e a)) r := by
  cases p with
  | ok a => exact h
  | ex x => exact h
  | no => trivial
theorem rv_some {p : M α} {r : Rv} (h : RvR (F e) p r) : RvR (F (eO e)) (p.bind fun a => .ok (some a)) r := by
  cases p with
  | ok a => exact h
  | ex x => exact h
  | no => trivial
/-! ### lists -/
theorem lenT_k {k : Kd} (h : kids t = some (k, [])) : True := trivial
theorem t_len (h : RdL S s) : lenT (S xs) = some (F eI (xs.length : Int)) := by
  have hk := h.k xs
  unfold lenT
  split
  · rename_i z hz
    rw [hz] at hk
    cases hk
  · rw [hk]
    dsimp only
    rw [List.length_map]
theorem t_lenScr {ns : List Int} : lenT (scr ns) = some (F eI (ns.length : Int)) := lenT_scr
def lenSG (x : Str) : M Int := gd (x.length ≤ LINE) (x.length : Int)
theorem g_lenS : RoR (F eI) (lenSG x) (lenT (F eS x)) := ro_gd fun h => by
  show (if x.length ≤ LINE then some (T.i x.length) else none) = _
  rw [if_pos h]
def idxG (xs : List α) (i : Int) : M α := match ixN xs.length i with
  | some k => ofO xs[k]?
  | none => .no
theorem idxT_k {ts : List T} (h : kids t = some (.lst, ts)) : idxT t u = atT ts u := by
  unfold idxT
  split
  · cases h
  · rw [h]
theorem idxT_s {ts : List T} (h : kids t = some (.scr, ts)) : idxT t u = atT ts u := by
  unfold idxT
  split
  · cases h
  · rw [h]
theorem ro_at {i : Int} : RoR s (idxG xs i) (atT (xs.map s) (F eI i)) := by
  show RoR s (idxG xs i) (atI (xs.map s) i)
  unfold idxG atI
  rw [List.length_map]
  cases ixN xs.length i with
  | none => trivial
  | some k =>
    refine ro_of fun a ha => ?_
    show (xs.map s)[k]? = _
    rw [List.getElem?_map, ha]
    rfl
theorem g_idx (h : RdL S s) : RoR s (idxG xs i) (idxT (S xs) (F eI i)) := by
  rw [idxT_k (h.k xs)]
  exact ro_at
theorem g_idxScr {ns : List Int} : RoR (F eI) (idxG ns i) (idxT (scr ns) (F eI i)) := by
  rw [idxT_s kids_scr]
  exact ro_at
def sg (c : Nat) : Str := ⟨#[c]⟩
def idxSG (x : Str) (i : Int) : M Str := if x.length ≤ LINE then ofO ((atI x.cps.toList i).map sg) else .no
theorem g_idxS : RoR (F eS) (idxSG x i) (idxT (F eS x) (F eI i)) := by
  unfold idxSG
  by_cases h : x.length ≤ LINE
  · rw [if_pos h]
    refine ro_of fun a ha => ?_
    show (if x.length ≤ LINE then (atI x.cps.toList i).map fun c => T.s ⟨#[c]⟩ else none) = _
    rw [if_pos h]
    cases e1 : atI x.cps.toList i with
    | none => rw [e1] at ha; cases ha
    | some c => rw [e1] at ha; cases ha; rfl
  · rw [if_neg h]
    trivial
theorem sliceT_k {ts : List T} {lo hi : Option Int} (h : kids t = some (.lst, ts)) : sliceT t lo hi = some (.n .ow .lst (cutT ts lo hi)) := by
  unfold sliceT
  split
  · cases h
  · rw [h]
theorem sliceT_s {ts : List T} {lo hi : Option Int} (h : kids t = some (.scr, ts)) : sliceT t lo hi = some (.n .ow .lst (cutT ts lo hi)) := by
  unfold sliceT
  split
  · cases h
  · rw [h]
theorem cut_map {lo hi : Option Int} : cutT (xs.map s) lo hi = (cutT xs lo hi).map s := by
  unfold cutT
  rw [List.length_map, List.map_take, List.map_drop]
theorem t_sl {lo hi : Option Int} (h : RdL S s) : sliceT (S xs) lo hi = some (OL s (cutT xs lo hi)) := by rw [sliceT_k (h.k xs), cut_map]; rfl
theorem t_slScr {ns : List Int} {lo hi : Option Int} : sliceT (scr ns) lo hi = some (OL (F eI) (cutT ns lo hi)) := by rw [sliceT_s kids_scr, cut_map]; rfl
def slSG (x : Str) (lo hi : Option Int) : M Str := gd (x.length ≤ LINE) (cutS x lo hi)
theorem g_slS {lo hi : Option Int} : RoR (F eS) (slSG x lo hi) (sliceT (F eS x) lo hi) := ro_gd fun h => by
  show (if x.length ≤ LINE then some (T.s (cutS x lo hi)) else none) = _
  rw [if_pos h]
def addSG (x y : Str) : M Str := gd (x.length + y.length ≤ LINE) (x ++ y)
theorem g_addS : RoR (F eS) (addSG x y) (addT (F eS x) (F eS y)) := ro_gd fun h => by
  show (if x.length + y.length ≤ LINE then some (T.s (x ++ y)) else none) = _
  rw [if_pos h]
def catG (xs ys : List α) : M (List α) := gd (xs.length + ys.length ≤ LINE) (xs ++ ys)
theorem addT_k {ts us : List T} (h : kids t = some (.lst, ts)) (h2 : kids u = some (.lst, us)) : addT t u = if ts.length + us.length ≤ LINE then some (.n .ow .lst (ts ++ us)) else none := by
  unfold addT
  split
  · cases h
  · cases h
  · rw [h, h2]
theorem g_cat {S' : List α → T} (h : RdL S s) (h2 : RdL S' s) : RoR (OL s) (catG xs ys) (addT (S xs) (S' ys)) := ro_gd fun c => by
  rw [addT_k (h.k xs) (h2.k ys), List.length_map, List.length_map, if_pos c, ← List.map_append]
  rfl
theorem listT_k {ts : List T} (h : kids t = some (.lst, ts)) : listT t = some (.n .ow .lst ts) := by unfold listT; rw [h]
theorem t_list (h : RdL S s) : listT (S xs) = some (OL s xs) := listT_k (h.k xs)
theorem t_listScr {ns : List Int} : listT (scr ns) = some (OL (F eI) ns) := by unfold listT; rw [kids_scr]; rfl
theorem t_rev (h : RdL S s) : revT (S xs) = some (OL s xs.reverse) := by unfold revT; rw [h.k xs]; show some (T.n .ow .lst (xs.map s).reverse) = _; rw [← List.map_reverse]; rfl
@[irreducible] def rngG (j : Int) : M (List Int) := gd (-(2 ^ 62) ≤ j ∧ j < 2 ^ 62) ((List.range j.toNat).map fun i : Nat => (i : Int))
@[irreducible] def rng2G (i j : Int) : M (List Int) := gd ((-(2 ^ 62) ≤ i ∧ i < 2 ^ 62) ∧ -(2 ^ 62) ≤ j ∧ j < 2 ^ 62) ((List.range (j - i).toNat).map fun k : Nat => i + (k : Int))
def lrgG (n : Int) : M (List Int) := gd (0 ≤ n ∧ n ≤ 16777216) ((List.range n.toNat).map fun i : Nat => (i : Int))
theorem g_lrg : RoR (OL (F eI)) (lrgG i) (lrgT (F eI i)) := ro_gd fun h => by
  show (if 0 ≤ i ∧ i ≤ 16777216 then some (T.n .ow .lst ((List.range i.toNat).map fun i : Nat => T.i (i : Int))) else none) = _
  rw [if_pos h]
  unfold OL
  rw [List.map_map]
  rfl
theorem intsT_m : ∀ ns : List Int, intsT (ns.map (F eI)) = some ns
  | [] => rfl
  | n :: ns => by
    show (intsT (ns.map (F eI))).map (n :: ·) = _
    rw [intsT_m ns]
    rfl
theorem blsT_m : ∀ ns : List Bool, blsT (ns.map (F eB)) = some ns
  | [] => rfl
  | n :: ns => by
    show (blsT (ns.map (F eB))).map (n :: ·) = _
    rw [blsT_m ns]
    rfl
theorem strsT_m : ∀ ns : List Str, strsT (ns.map (F eS)) = some ns
  | [] => rfl
  | n :: ns => by
    show (strsT (ns.map (F eS))).map (n :: ·) = _
    rw [strsT_m ns]
    rfl
theorem lstT_k {ts : List T} (h : kids t = some (.lst, ts)) : lstT t = some ts := by unfold lstT; rw [h]
theorem t_sum {S : List Int → T} {ns : List Int} (h : RdL S (F eI)) : sumT (S ns) = some (F eI ns.sum) := by
  unfold sumT
  rw [lstT_k (h.k ns), Option.bind_some, intsT_m]
  rfl
theorem t_all {S : List Bool → T} {ns : List Bool} (h : RdL S (F eB)) : allT (S ns) = some (F eB (ns.all id)) := by
  unfold allT
  rw [lstT_k (h.k ns), Option.bind_some, blsT_m]
  rfl
theorem t_any {S : List Bool → T} {ns : List Bool} (h : RdL S (F eB)) : anyT (S ns) = some (F eB (ns.any id)) := by
  unfold anyT
  rw [lstT_k (h.k ns), Option.bind_some, blsT_m]
  rfl
theorem g_maxl {S : List Int → T} {ns : List Int} (h : RdL S (F eI)) : RoR (F eI) (ofO (maxI ns)) (maxlT (S ns)) := ro_of fun a ha => by
  unfold maxlT
  rw [lstT_k (h.k ns), Option.bind_some, intsT_m, Option.bind_some, ha]
  rfl
theorem g_minl {S : List Int → T} {ns : List Int} (h : RdL S (F eI)) : RoR (F eI) (ofO (minI ns)) (minlT (S ns)) := ro_of fun a ha => by
  unfold minlT
  rw [lstT_k (h.k ns), Option.bind_some, intsT_m, Option.bind_some, ha]
  rfl
def joinG (x : Str) (ys : List Str) : M Str := gd ((ys.map fun y : Str => y.length).sum + ys.length * x.length ≤ LINE) (Txt.join x ys)
theorem g_join {S : List Str → T} {ys : List Str} (h : RdL S (F eS)) : RoR (F eS) (joinG x ys) (joinT (F eS x) (S ys)) := ro_gd fun c => by
  show (match (lstT (S ys)).bind strsT with
    | some ys => if (ys.map fun y : Str => y.length).sum + ys.length * x.length ≤ LINE then some (T.s (Txt.join x ys)) else none
    | none => none) = _
  rw [lstT_k (h.k ys), Option.bind_some, strsT_m]
  dsimp only
  rw [if_pos c]
def zfillG (x : Str) (i : Int) : M Str := gd (PadOk i = true) (Txt.zfill x i)
theorem g_zfill : RoR (F eS) (zfillG x i) (zfillT (F eS x) (F eI i)) := ro_gd fun h => by
  show (if PadOk i = true then some (T.s (Txt.zfill x i)) else none) = _
  rw [if_pos h]
def strG (i : Int) : M Str := gd (i.natAbs.log2 < 1920) (toString i : String)
theorem g_str : RoR (F eS) (strG i) (strT (F eI i)) := ro_gd fun h => by
  show (if i.natAbs.log2 < 1920 then some (T.s (toString i)) else none) = _
  rw [if_pos h]
theorem t_strS : strT (F eS x) = some (F eS x) := rfl
def b2I (b : Bool) : Int := if b then 1 else 0
theorem t_intB {b : Bool} : toIntT (F eB b) = some (F eI (b2I b)) := rfl
theorem t_intI : toIntT (F eI i) = some (F eI i) := rfl
def intSG (x : Str) : M Int := if x.length ≤ 640 then ofO (PySem.intText? x) else .no
theorem g_intS : RoR (F eI) (intSG x) (toIntT (F eS x)) := by
  unfold intSG
  by_cases h : x.length ≤ 640
  · rw [if_pos h]
    refine ro_of fun a ha => ?_
    show (if x.length ≤ 640 then (PySem.intText? x).map T.i else none) = _
    rw [if_pos h, ha]
    rfl
  · rw [if_neg h]
    trivial
def dvmG (i j : Int) : M (Int × Int) := gd (0 < j ∧ j.natAbs.log2 < 9000) (i / j, i % j)
theorem g_dvm : RoR (OP2 (F eI) (F eI)) (dvmG i j) (divmodT (F eI i) (F eI j)) := ro_gd fun h => by
  show (if 0 < j ∧ j.natAbs.log2 < 9000 then some (T.n .ow .tup [T.i (i / j), T.i (i % j)]) else none) = _
  rw [if_pos h]
  rfl
/-! ### in -/
def inSG (x y : Str) : M Bool := match x.cps.toList with
  | [c] => .ok (decide (c ∈ y.cps.toList))
  | _ => .no
theorem g_inS : RoR (F eB) (inSG x y) (inT (F eS x) (F eS y)) := by
  unfold inT inB inSG
  dsimp only
  cases h : x.cps.toList with
  | nil => trivial
  | cons c cs => cases cs <;> first | rfl | trivial
theorem g_ninS : RoR (F eB) ((inSG x y).bind fun b => .ok (!b)) (notInT (F eS x) (F eS y)) := by
  unfold notInT inB inSG
  dsimp only
  cases h : x.cps.toList with
  | nil => trivial
  | cons c cs => cases cs <;> first | rfl | trivial
/-- membership among data -/
def inDG (d : D) (ds : List D) : M Bool := gd ((shD d && shD (.n .lst ds)) = true) (ds.any fun e => eqD e d)
theorem inB_k {ts : List T} (h : kids t = some (.lst, ts)) : inB u t = if (shD (era u) && shD (.n .lst (eras ts))) = true then some ((eras ts).any fun e => eqD e (era u)) else none := by
  unfold inB
  split
  · cases h
  · rw [h]
theorem g_inL {ds : List D} (h : RdL S s) (h1 : era u = d) (h2 : eras (xs.map s) = ds) : RoR (F eB) (inDG d ds) (inT u (S xs)) := ro_gd fun c => by
  unfold inT
  rw [inB_k (h.k xs), h1, h2, if_pos c]
  rfl
theorem g_ninL {ds : List D} (h : RdL S s) (h1 : era u = d) (h2 : eras (xs.map s) = ds) : RoR (F eB) ((inDG d ds).bind fun b => .ok (!b)) (notInT u (S xs)) := by
  unfold notInT inDG gd
  by_cases c : (shD d && shD (.n .lst ds)) = true
  · rw [if_pos c, inB_k (h.k xs), h1, h2, if_pos c]
    rfl
  · rw [if_neg c]
    trivial
/-! ### dicts -/
def Dic.get [DecidableEq κ] (m : Dic κ ν) (k : κ) : Option ν := (m.l.find? fun p => p.1 = k).map (·.2)
def Dic.has [DecidableEq κ] (m : Dic κ ν) (k : κ) : Bool := (m.get k).isSome
def Dic.keys (m : Dic κ ν) : List κ := m.l.map (·.1)
def Dic.vals (m : Dic κ ν) : List ν := m.l.map (·.2)
def Dic.nil : Dic κ ν := ⟨[], List.nodup_nil⟩
def dputL [DecidableEq κ] : List (κ × ν) → κ → ν → List (κ × ν)
  | [], k, v => [(k, v)]
  | p :: ps, k, v => if p.1 = k then (p.1, v) :: ps else p :: dputL ps k v
theorem dputL_keys [DecidableEq κ] : ∀ (l : List (κ × ν)) (k : κ) (v : ν), (dputL l k v).map (·.1) = if k ∈ l.map (·.1) then l.map (·.1) else l.map (·.1) ++ [k]
  | [], k, v => rfl
  | p :: ps, k, v => by
    unfold dputL
    by_cases h : p.1 = k
    · rw [if_pos h, if_pos (by rw [List.map_cons, h]; exact List.mem_cons_self)]
      rfl
    · rw [if_neg h, List.map_cons, dputL_keys ps k v, List.map_cons]
      by_cases hk : k ∈ ps.map (·.1)
      · rw [if_pos hk, if_pos (List.mem_cons_of_mem _ hk)]
      · rw [if_neg hk, if_neg (by
          intro z
          rcases List.mem_cons.mp z with z | z
          · exact h z.symm
          · exact hk z)]
        rfl
def Dic.put [DecidableEq κ] (m : Dic κ ν) (k : κ) (v : ν) : Dic κ ν := ⟨dputL m.l k v, by
  rw [dputL_keys]
  by_cases h : k ∈ m.l.map (·.1)
  · rw [if_pos h]; exact m.nd
  · rw [if_neg h]
    refine List.nodup_append.mpr ⟨m.nd, by simp, ?_⟩
    intro a ha b hb e
    rw [List.mem_singleton] at hb
    exact h (by rw [← hb, ← e]; exact ha)⟩
theorem dget_m [DecidableEq κ] {k : κ → Key} {s : ν → T} (hk : ∀ a b, k a = k b → a = b) (q : κ) : ∀ l : List (κ × ν), dget (l.map fun p => k p.1) (l.map fun p => s p.2) (k q) = ((l.find? fun p => p.1 = q).map (·.2)).map s
  | [] => rfl
  | p :: ps => by
    show (if k p.1 = k q then some (s p.2) else dget _ _ _) = _
    by_cases h : p.1 = q
    · rw [if_pos (by rw [h]), List.find?_cons_of_pos (by simp [h])]
      rfl
    · rw [if_neg (fun z => h (hk _ _ z)), List.find?_cons_of_neg (by simp [h])]
      exact dget_m hk q ps
theorem dput_mK [DecidableEq κ] {k : κ → Key} (hk : ∀ a b, k a = k b → a = b) (q : κ) (v : ν) : ∀ l : List (κ × ν), dputK (l.map fun p => k p.1) (k q) = (dputL l q v).map fun p => k p.1
  | [] => rfl
  | p :: ps => by
    show (if k p.1 = k q then k p.1 :: (ps.map fun p => k p.1) else k p.1 :: dputK _ _) = _
    unfold dputL
    by_cases h : p.1 = q
    · rw [if_pos (by rw [h]), if_pos h]
      rfl
    · rw [if_neg (fun z => h (hk _ _ z)), if_neg h, dput_mK hk q v ps]
      rfl
theorem dput_mV [DecidableEq κ] {k : κ → Key} {s : ν → T} (hk : ∀ a b, k a = k b → a = b) (q : κ) (v : ν) : ∀ l : List (κ × ν), dputV (l.map fun p => k p.1) (l.map fun p => s p.2) (k q) (s v) = (dputL l q v).map fun p => s p.2
  | [] => rfl
  | p :: ps => by
    show (if k p.1 = k q then s v :: (ps.map fun p => s p.2) else s p.2 :: dputV _ _ _ _) = _
    unfold dputL
    by_cases h : p.1 = q
    · rw [if_pos (by rw [h]), if_pos h]
      rfl
    · rw [if_neg (fun z => h (hk _ _ z)), if_neg h, dput_mV hk q v ps]
      rfl
variable {k : κ → Key} {ek : κ → D} {sv : ν → T} {SM : Dic κ ν → T} {m : Dic κ ν} {qk : κ}
theorem inB_d {ks : List Key} {ts : List T} {z : Key} (h : kids t = some (.dic ks, ts)) (hu : keyT u = some z) : inB u t = some (dget ks ts z).isSome := by
  unfold inB
  split
  · cases h
  · rw [h]
    dsimp only
    rw [hu]
theorem t_inM [DecidableEq κ] (hk : Keyed k ek) (h : RdM k SM sv) : inT (F ek qk) (SM m) = some (F eB (m.has qk)) := by
  unfold inT
  rw [inB_d (h.k m) (hk.key qk), dget_m hk.inj]
  unfold Dic.has Dic.get
  cases (m.l.find? fun p => p.1 = qk) <;> rfl
theorem t_ninM [DecidableEq κ] (hk : Keyed k ek) (h : RdM k SM sv) : notInT (F ek qk) (SM m) = some (F eB (!m.has qk)) := by
  unfold notInT
  rw [inB_d (h.k m) (hk.key qk), dget_m hk.inj]
  unfold Dic.has Dic.get
  cases (m.l.find? fun p => p.1 = qk) <;> rfl
theorem idxT_d {ks : List Key} {ts : List T} {z : Key} (h : kids t = some (.dic ks, ts)) (hu : keyT u = some z) : idxT t u = dget ks ts z := by
  unfold idxT
  split
  · cases h
  · rw [h]
    dsimp only
    rw [hu]
theorem g_idxM [DecidableEq κ] (hk : Keyed k ek) (h : RdM k SM sv) : RoR sv (ofO (m.get qk)) (idxT (SM m) (F ek qk)) := ro_of fun a ha => by
  rw [idxT_d (h.k m) (hk.key qk), dget_m hk.inj]
  unfold Dic.get at ha
  rw [ha]
  rfl
def putG [DecidableEq κ] (m : Dic κ ν) (q : κ) (v : ν) : M (Dic κ ν) := gd (m.l.length < LINE) (m.put q v)
theorem j_putM [DecidableEq κ] {P : Po σ β ρ} {rest : En → So} {gi gv : En → Rv} {n : Nat} {a : ν} {f : Dic κ ν → O σ β ρ} (hk : Keyed k ek) (h : en[n]? = some (some (OM k sv m))) (hv : gv en = .ok (sv a)) (hi : gi en = .ok (F ek qk)) (nl : ∀ a, noLk (sv a) = true) (kk : ∀ m, SoR P (f m) (rest (en.set n (some (OM k sv m))))) : SoR P (O.bind (putG m qk a) f) (sSeq (sPut n gi gv) rest en) := by
  rw [sSeq_at]
  unfold sPut
  rw [hv, hi, h]
  unfold OM putG gd putT
  dsimp only
  rw [hk.key qk, List.length_map]
  have nd : (m.l.map fun p => k p.1).Nodup := by
    have := m.nd
    rw [List.Nodup, List.pairwise_map] at this ⊢
    exact this.imp fun h z => h (hk.inj _ _ z)
  by_cases hl : m.l.length < LINE
  · rw [if_pos hl]
    dsimp only
    rw [if_pos ⟨hl, nd⟩]
    dsimp only
    rw [if_pos (nl a), dput_mK hk.inj qk a, dput_mV hk.inj]
    exact kk (m.put qk a)
  · rw [if_neg hl]
    trivial
/-! ### loops -/
variable {gv : En → Rv} {gs : En → Rvs} {g g1 g2 : En → Rv}
theorem hide_get : ∀ {en : En} {i : Nat}, (hideO en)[i]? = en[i]?.map hid
  | [], i => by simp [hideO]
  | o :: en, 0 => by rw [hideO_cons]; rfl
  | o :: en, i + 1 => by rw [hideO_cons]; exact hide_get
theorem vh {i : Nat} {o : T} (h : en[i]? = some (some o)) (hh : hid (some o) = some o) (hl : lock o = t) : vVar i (hideO en) = .ok t := vv (by rw [hide_get, h]; exact congrArg some hh) hl
theorem vhF {i : Nat} {d : D} (h : en[i]? = some (some (.f d))) : vVar i (hideO en) = .ok (.f d) := vh h rfl rfl
theorem txtR_k {x : Kd × List T} (h : kids t = some x) : txtR t = none := by
  unfold txtR
  split
  · cases h
  · rfl
theorem itms_m (hs : ∀ a, itm (s a) = some (s a)) : ∀ xs : List α, itms (xs.map s) = some (xs.map s)
  | [] => rfl
  | a :: as => by
    show (itm (s a)).bind (fun u => (itms (as.map s)).map (u :: ·)) = _
    rw [hs a, itms_m hs as]
    rfl
theorem ri_ok {r : Ri} (h : r = .ok (xs.map s)) : RiR s (.ok xs) r := h
theorem t_seq (h : gv (hideO en) = .ok (S xs)) (hk : RdL S s) (hs : ∀ a, itm (s a) = some (s a)) : iSeqA gv en = .ok (xs.map s) := by
  unfold iSeqA sqA
  rw [h]
  dsimp only
  rw [txtR_k (hk.k xs)]
  unfold seqT
  rw [hk.k xs]
  dsimp only
  rw [itms_m hs]
  rfl
theorem m_seq {p : M (List α)} (h : RvR S p (gv (hideO en))) (hk : RdL S s) (hs : ∀ a, itm (s a) = some (s a)) : RiR s p (iSeqA gv en) := by
  cases p with
  | ok xs => exact t_seq h hk hs
  | ex x => show iSeqA gv en = .ex x; unfold iSeqA sqA; rw [show gv (hideO en) = .ex x from h]
  | no => trivial
/-- the parts of an owned list are frozen for the walk -/
theorem t_seqO {s' : α → T} (h : gv (hideO en) = .ok (OL s xs)) (hs : ∀ a, itm (s a) = some (s' a)) : iSeqA gv en = .ok (xs.map s') := by
  unfold iSeqA sqA OL at *
  rw [h]
  show (match seqT (T.n .ow .lst (xs.map s)) with | some (_, us) => Ri.ok us | none => .no) = _
  unfold seqT
  have : itms (xs.map s) = some (xs.map s') := by
    clear h
    induction xs with
    | nil => rfl
    | cons a as ih =>
      show (itm (s a)).bind (fun u => (itms (as.map s)).map (u :: ·)) = _
      rw [hs a, ih]
      rfl
  rw [show kids (T.n .ow .lst (xs.map s)) = some (.lst, xs.map s) from rfl]
  dsimp only
  rw [this]
  rfl
theorem t_seqScr {ns : List Int} (h : gv (hideO en) = .ok (scr ns)) : iSeqA gv en = .ok (ns.map (F eI)) := by
  unfold iSeqA sqA
  rw [h]
  dsimp only
  rw [txtR_k kids_scr]
  unfold seqT
  rw [kids_scr]
  dsimp only
  rw [itms_m fun _ => rfl]
  rfl
def chars (z : Str) : List Str := z.cps.toList.map sg
theorem t_seqS {z : Str} (h : gv (hideO en) = .ok (F eS z)) : iSeqA gv en = .ok ((chars z).map (F eS)) := by
  unfold iSeqA sqA
  rw [h]
  show Ri.ok (sgn z) = _
  unfold sgn chars
  rw [List.map_map]
  rfl
theorem m_seqS {p : M Str} (h : RvR (F eS) p (gv (hideO en))) : RiR (F eS) (p.bind fun z => .ok (chars z)) (iSeqA gv en) := by
  cases p with
  | ok z => exact t_seqS h
  | ex x => show iSeqA gv en = .ex x; unfold iSeqA sqA; rw [show gv (hideO en) = .ex x from h]
  | no => trivial
theorem g_rng (h : g en = .ok (F eI j)) : RiR (F eI) (rngG j) (iRng (aCons g aNil) en) := by
  rw [iRng_at, aCons_at, h]
  unfold rngG gd
  show RiR _ _ (rnR (.ok [.f (.a (.int j))]))
  by_cases c : -(2 ^ 62) ≤ j ∧ j < 2 ^ 62
  · rw [if_pos c, rnR_1 c]
    show _ = Ri.ok (((List.range j.toNat).map fun i : Nat => (i : Int)).map (F eI))
    rw [List.map_map]
    rfl
  · rw [if_neg c]
    trivial
theorem m_rng {p : M Int} (h : RvR (F eI) p (g en)) : RiR (F eI) (p.bind rngG) (iRng (aCons g aNil) en) := by
  cases p with
  | ok j => exact g_rng h
  | ex x => show iRng _ en = .ex x; rw [iRng_at, aCons_at, show g en = .ex x from h]; rfl
  | no => trivial
theorem g_rng2 (h : g1 en = .ok (F eI i)) (h2 : g2 en = .ok (F eI j)) : RiR (F eI) (rng2G i j) (iRng (aCons g1 (aCons g2 aNil)) en) := by
  rw [iRng_at, aCons_at, aCons_at, h, h2]
  unfold rng2G gd
  show RiR _ _ (match rngI [.f (.a (.int i)), .f (.a (.int j))] with | some us => Ri.ok us | none => .no)
  unfold rngI
  dsimp only
  by_cases c : (-(2 ^ 62) ≤ i ∧ i < 2 ^ 62) ∧ -(2 ^ 62) ≤ j ∧ j < 2 ^ 62
  · rw [if_pos c, if_pos c]
    show _ = Ri.ok (((List.range (j - i).toNat).map fun k : Nat => i + (k : Int)).map (F eI))
    rw [List.map_map]
    rfl
  · rw [if_neg c]
    trivial
theorem m_rng2 {p q : M Int} (h : RvR (F eI) p (g1 en)) (h2 : RvR (F eI) q (g2 en)) : RiR (F eI) (p.bind fun i => q.bind fun j => rng2G i j) (iRng (aCons g1 (aCons g2 aNil)) en) := by
  cases p with
  | ok i =>
    cases q with
    | ok j => exact g_rng2 h h2
    | ex x => show iRng _ en = .ex x; rw [iRng_at, aCons_at, aCons_at, show g1 en = .ok (F eI i) from h, show g2 en = .ex x from h2]; rfl
    | no => trivial
  | ex x => show iRng _ en = .ex x; rw [iRng_at, aCons_at, show g1 en = .ex x from h]; rfl
  | no => trivial
/-! ### locks, freezing -/
theorem lkOL {s' : α → T} (h : ∀ a, lock (s a) = s' a) : lock (OL s xs) = LL s' xs := by
  unfold OL LL
  show T.n .lk .lst (locks (xs.map s)) = _
  rw [locks_map, List.map_map]
  exact congrArg _ (List.map_congr_left fun a _ => h a)
theorem lkLL {s' : α → T} (h : ∀ a, lock (s a) = s' a) : lock (LL s xs) = LL s' xs := by
  unfold LL
  show T.n .lk .lst (locks (xs.map s)) = _
  rw [locks_map, List.map_map]
  exact congrArg _ (List.map_congr_left fun a _ => h a)
theorem lkOM {s s' : ν → T} (h : ∀ a, lock (s a) = s' a) : lock (OM k s m) = LM k s' m := by
  unfold OM LM
  show T.n .lk _ (locks (m.l.map _)) = _
  rw [locks_map, List.map_map]
  exact congrArg _ (List.map_congr_left fun a _ => h a.2)
theorem lkLM {s s' : ν → T} (h : ∀ a, lock (s a) = s' a) : lock (LM k s m) = LM k s' m := by
  unfold LM
  show T.n .lk _ (locks (m.l.map _)) = _
  rw [locks_map, List.map_map]
  exact congrArg _ (List.map_congr_left fun a _ => h a.2)
theorem lkOP2 {a a' : α → T} {b b' : β → T} {p : α × β} (h : ∀ x, lock (a x) = a' x) (h2 : ∀ x, lock (b x) = b' x) : lock (OP2 a b p) = LP2 a' b' p := by
  show T.n .lk .tup [lock (a p.1), lock (b p.2)] = _
  rw [h, h2]
  rfl
theorem lkLP2 {a a' : α → T} {b b' : β → T} {p : α × β} (h : ∀ x, lock (a x) = a' x) (h2 : ∀ x, lock (b x) = b' x) : lock (LP2 a b p) = LP2 a' b' p := by
  show T.n .lk .tup [lock (a p.1), lock (b p.2)] = _
  rw [h, h2]
  rfl
theorem noLks_m {f : α → T} (h : ∀ a, noLk (f a) = true) : ∀ l : List α, noLks (l.map f) = true
  | [] => rfl
  | a :: as => by
    show (noLk (f a) && noLks (as.map f)) = true
    rw [h, noLks_m h as]
    rfl
theorem nlOL (h : ∀ a, noLk (s a) = true) : noLk (OL s xs) = true := noLks_m h xs
theorem nlOM {s : ν → T} (h : ∀ a, noLk (s a) = true) : noLk (OM k s m) = true := noLks_m (f := fun p : κ × ν => s p.2) (fun a => h a.2) m.l
theorem nlOP2 {a : α → T} {b : β → T} {p : α × β} (h : ∀ x, noLk (a x) = true) (h2 : ∀ x, noLk (b x) = true) : noLk (OP2 a b p) = true := by
  show (noLk (a p.1) && (noLk (b p.2) && true)) = true
  rw [h, h2]
  rfl
theorem nlOP3 {a : α → T} {b : β → T} {c : γ → T} {p : α × β × γ} (h : ∀ x, noLk (a x) = true) (h2 : ∀ x, noLk (b x) = true) (h3 : ∀ x, noLk (c x) = true) : noLk (OP3 a b c p) = true := by
  show (noLk (a p.1) && (noLk (b p.2.1) && (noLk (c p.2.2) && true))) = true
  rw [h, h2, h3]
  rfl
theorem eras_m {f : α → T} {e : α → D} (h : ∀ a, era (f a) = e a) (l : List α) : eras (l.map f) = l.map e := by
  rw [eras_map, List.map_map]
  exact List.map_congr_left fun a _ => h a
theorem eraOL (h : ∀ a, era (s a) = e a) : era (OL s xs) = eL e xs := by
  show D.n .lst (eras (xs.map s)) = _
  rw [eras_m h]
  rfl
theorem eraLL (h : ∀ a, era (s a) = e a) : era (LL s xs) = eL e xs := by
  show D.n .lst (eras (xs.map s)) = _
  rw [eras_m h]
  rfl
theorem eraOM {s : ν → T} {e : ν → D} (h : ∀ a, era (s a) = e a) : era (OM k s m) = eM k e m := by
  show D.n _ (eras (m.l.map fun p => s p.2)) = _
  rw [eras_m (e := fun p : κ × ν => e p.2) fun a => h a.2]
  rfl
theorem eraLM {s : ν → T} {e : ν → D} (h : ∀ a, era (s a) = e a) : era (LM k s m) = eM k e m := by
  show D.n _ (eras (m.l.map fun p => s p.2)) = _
  rw [eras_m (e := fun p : κ × ν => e p.2) fun a => h a.2]
  rfl
theorem eraOP2 {a : α → T} {b : β → T} {a' : α → D} {b' : β → D} {p : α × β} (h : ∀ x, era (a x) = a' x) (h2 : ∀ x, era (b x) = b' x) : era (OP2 a b p) = eP2 a' b' p := by
  show D.n .tup [era (a p.1), era (b p.2)] = _
  rw [h, h2]
  rfl
theorem eraOP3 {a : α → T} {b : β → T} {c : γ → T} {a' : α → D} {b' : β → D} {c' : γ → D} {p : α × β × γ} (h : ∀ x, era (a x) = a' x) (h2 : ∀ x, era (b x) = b' x) (h3 : ∀ x, era (c x) = c' x) : era (OP3 a b c p) = eP3 a' b' c' p := by
  show D.n .tup [era (a p.1), era (b p.2.1), era (c p.2.2)] = _
  rw [h, h2, h3]
  rfl
theorem Tf {d d' : D} (h : d = d') : T.f d = T.f d' := congrArg _ h
/-! ### no exceptions within -/
theorem nxDs_m {e : α → D} (h : ∀ a, nxD (e a) = true) : ∀ l : List α, nxDs (l.map e) = true
  | [] => rfl
  | a :: as => by
    show (nxD (e a) && nxDs (as.map e)) = true
    rw [h, nxDs_m h as]
    rfl
theorem nxTs_m {f : α → T} (h : ∀ a, nxT (f a) = true) : ∀ l : List α, nxTs (l.map f) = true
  | [] => rfl
  | a :: as => by
    show (nxT (f a) && nxTs (as.map f)) = true
    rw [h, nxTs_m h as]
    rfl
theorem nxL {e : α → D} (h : ∀ a, nxD (e a) = true) (xs : List α) : nxD (eL e xs) = true := nxDs_m h xs
theorem nxM {e : ν → D} (h : ∀ a, nxD (e a) = true) (m : Dic κ ν) : nxD (eM k e m) = true := nxDs_m (e := fun p : κ × ν => e p.2) (fun a => h a.2) m.l
theorem nxOp {e : α → D} (h : ∀ a, nxD (e a) = true) (o : Option α) : nxD (eO e o) = true := by
  cases o with
  | none => rfl
  | some a => exact h a
theorem nxOL (h : ∀ a, nxT (s a) = true) : nxT (OL s xs) = true := nxTs_m h xs
theorem nxLL (h : ∀ a, nxT (s a) = true) : nxT (LL s xs) = true := nxTs_m h xs
theorem nxOM {s : ν → T} (h : ∀ a, nxT (s a) = true) : nxT (OM k s m) = true := nxTs_m (f := fun p : κ × ν => s p.2) (fun a => h a.2) m.l
theorem nxLM {s : ν → T} (h : ∀ a, nxT (s a) = true) : nxT (LM k s m) = true := nxTs_m (f := fun p : κ × ν => s p.2) (fun a => h a.2) m.l
theorem nxP2 {a : α → D} {b : β → D} (h : ∀ x, nxD (a x) = true) (h2 : ∀ x, nxD (b x) = true) (p : α × β) : nxD (eP2 a b p) = true := by
  show (nxD (a p.1) && (nxD (b p.2) && true)) = true
  rw [h, h2]
  rfl
theorem nxP3 {a : α → D} {b : β → D} {c : γ → D} (h : ∀ x, nxD (a x) = true) (h2 : ∀ x, nxD (b x) = true) (h3 : ∀ x, nxD (c x) = true) (p : α × β × γ) : nxD (eP3 a b c p) = true := by
  show (nxD (a p.1) && (nxD (b p.2.1) && (nxD (c p.2.2) && true))) = true
  rw [h, h2, h3]
  rfl
/-! ### isinstance, fields of errors -/
def isXG (tb : List (Cd × Bool)) (x : Ex) : M Bool := ofO (tb.lookup (.own x.c))
theorem g_isX {tb : List (Cd × Bool)} {x : Ex} : RoR (F eB) (isXG tb x) (isB tb (F eX x)) := ro_of fun a ha => by
  show (tb.lookup (.own x.c)).map T.b = _
  rw [ha]
  rfl
def isDG (tb : List (Cd × Bool)) (d : D) : M Bool := tB (isB tb (.f d))
theorem g_isD {tb : List (Cd × Bool)} : RoR (F eB) (isDG tb d) (isB tb (F eD d)) := ro_tB
def isD2G (tb : List (Cd × Bool)) (ti : List (String × Bool)) (d : D) : M Bool := tB (isB2 tb ti (.f d))
theorem g_isD2 {tb : List (Cd × Bool)} {ti : List (String × Bool)} : RoR (F eB) (isD2G tb ti d) (isB2 tb ti (F eD d)) := ro_tB
def xfG (cs : List String) (f : Str) (x : Ex) : M D := if cs.contains x.c = true then ofO (fget x.fs x.ds f) else .no
theorem fget_m {e : α → T} : ∀ {fs : List Str} {xs : List α} {f : Str}, fget fs (xs.map e) f = (fget fs xs f).map e
  | [], xs, f => by cases xs <;> rfl
  | g :: fs, [], f => rfl
  | g :: fs, x :: xs, f => by
    rw [List.map_cons]
    unfold fget
    by_cases h : f = g
    · rw [if_pos h, if_pos h]; rfl
    · rw [if_neg h, if_neg h]; exact fget_m
theorem g_xf {cs : List String} {f : Str} {x : Ex} : RoR (F eD) (xfG cs f x) (xfT cs f (F eX x)) := by
  unfold xfG
  by_cases h : cs.contains x.c = true
  · rw [if_pos h]
    refine ro_of fun d hd => ?_
    show (if cs.contains x.c = true then fget x.fs (x.ds.map T.f) f else none) = _
    rw [if_pos h, fget_m, hd]
    rfl
  · rw [if_neg h]
    trivial
end
end DT
/-! Data trees, part 30: typed readings, more. -/
namespace DT
open PySem L2
section
variable {α β γ σ τ ρ κ ν : Type} {e : α → D} {s : α → T} {S : List α → T} {en : En} {i j : Int} {x y : Str} {xs ys : List α} {t u : T} {d d' : D} {P : Po σ β ρ} {o : O σ β ρ} {st : En → So} {g : En → Rv}
theorem fn_okN {E : ρ → T} {d : ρ} {o : O Unit Empty ρ} {n : Nat} {ws : List Nat} {r : So} (h : SoR ⟨fun _ _ => False, fun _ _ => True, fun v t _ => t = E v, fun _ => True⟩ o r) : RvR E (fnO d o) (fin n ws r).v := by
  cases o with
  | nx a =>
    obtain ⟨e, _, z⟩ := h
    exact z.elim
  | bk a => exact a.elim
  | rt a =>
    obtain ⟨t, e, rfl, _, rfl⟩ := h
    rfl
  | ex x =>
    obtain ⟨e, rfl, _⟩ := h
    rfl
  | no => trivial
theorem g_isX2 {tb : List (Cd × Bool)} {ti : List (String × Bool)} {x : Ex} : RoR (F eB) (isXG tb x) (isB2 tb ti (F eX x)) := ro_of fun a ha => by
  show (tb.lookup (.own x.c)).map T.b = _
  rw [ha]
  rfl
theorem j_unlast (h : SoR P o (st en)) : SoR P o (sSeq st sNx en) := by
  rw [sSeq_at]
  cases e : st en <;> rw [e] at h <;> exact h
theorem rv_none {p : M Unit} {r : Rv} (h : RvR (F eU) p r) : RvR (F (eO e)) (p.bind fun _ => .ok none) r := by
  cases p with
  | ok a => exact h
  | ex x => exact h
  | no => trivial
theorem t_so (h : g en = .ok (F eS x)) : sOnly g en = .ok (F eS x) := by
  unfold sOnly
  rw [h]
/-! ### slices -/
variable {gl gh : En → Ro} {lo hi : Option Int} {gi : En → Rv} {p : M α} {f : α → M β} {e1 : β → T} {pI : M Int} {fI : Int → M β}
theorem oo_n : oN en = .ok none := rfl
theorem oo_s (h : g en = .ok (F eI i)) : oS g en = .ok (some i) := by
  rw [oS_at, h]
  rfl
theorem t_s (h : g en = .ok t) (hl : gl en = .ok lo) (hh : gh en = .ok hi) (hf : sliceT t lo hi = some u) : vSl g gl gh en = .ok u := by
  rw [vSl_at, h, hl, hh, slR_ok, hf]
  rfl
theorem g_s {p : M β} (h : g en = .ok t) (hl : gl en = .ok lo) (hh : gh en = .ok hi) (hf : RoR e1 p (sliceT t lo hi)) : RvR e1 p (vSl g gl gh en) := by
  cases p with
  | ok a => exact t_s h hl hh hf
  | ex x => exact hf.elim
  | no => trivial
theorem m_sa (h : RvR s p (g en)) (k : ∀ a, g en = .ok (s a) → RvR e1 (f a) (vSl g gl gh en)) : RvR e1 (M.bind p f) (vSl g gl gh en) := by
  cases p with
  | ok a => exact k a h
  | ex x =>
    rw [vSl_at, show g en = .ex x from h]
    rfl
  | no => trivial
theorem m_sb (ho : g en = .ok t) (h : RvR (F eI) pI (gi en)) (k : ∀ a, gi en = .ok (F eI a) → RvR e1 (fI a) (vSl g (oS gi) gh en)) : RvR e1 (M.bind pI fI) (vSl g (oS gi) gh en) := by
  cases pI with
  | ok a => exact k a h
  | ex x =>
    rw [vSl_at, ho, oS_at, show gi en = .ex x from h]
    rfl
  | no => trivial
theorem m_sc (ho : g en = .ok t) (hl : gl en = .ok lo) (h : RvR (F eI) pI (gi en)) (k : ∀ a, gi en = .ok (F eI a) → RvR e1 (fI a) (vSl g gl (oS gi) en)) : RvR e1 (M.bind pI fI) (vSl g gl (oS gi) en) := by
  cases pI with
  | ok a => exact k a h
  | ex x =>
    rw [vSl_at, ho, hl, oS_at, show gi en = .ex x from h]
    rfl
  | no => trivial
end
end DT
/-! Data trees, part 31: laws of typed programs. -/
namespace DT
open PySem L2
section
variable {α β γ σ τ ρ κ ν : Type}
@[simp] theorem Mb_ok {a : α} {f : α → M β} : M.bind (.ok a) f = f a := rfl
@[simp] theorem Mb_ex {x : Ex} {f : α → M β} : M.bind (.ex x) f = .ex x := rfl
@[simp] theorem Ob_ok {a : α} {f : α → O σ β ρ} : O.bind (.ok a) f = f a := rfl
@[simp] theorem Ob_ex {x : Ex} {f : α → O σ β ρ} : O.bind (.ex x) f = .ex x := rfl
@[simp] theorem Os_nx {s : σ} {k : σ → O τ β ρ} : O.seq (.nx s) k = k s := rfl
@[simp] theorem Os_rt {s : ρ} {k : σ → O τ β ρ} : O.seq (.rt s) k = .rt s := rfl
@[simp] theorem Os_ex {s : Ex} {k : σ → O τ β ρ} : O.seq (.ex s) k = .ex s := rfl
@[simp] theorem fnO_rt {r d : ρ} : fnO d (.rt r) = .ok r := rfl
@[simp] theorem fnO_nx {d : ρ} : fnO d (.nx ()) = .ok d := rfl
@[simp] theorem fnO_ex {d : ρ} {x : Ex} : fnO d (.ex x) = .ex x := rfl
@[simp] theorem Mand_t {q : M Bool} : M.and (.ok true) q = q := rfl
@[simp] theorem Mand_f {q : M Bool} : M.and (.ok false) q = .ok false := rfl
@[simp] theorem Mor_t {q : M Bool} : M.or (.ok true) q = .ok true := rfl
@[simp] theorem Mor_f {q : M Bool} : M.or (.ok false) q = q := rfl
theorem gd_ok {c : Prop} [Decidable c] {a : α} (h : c) : gd c a = .ok a := if_pos h
theorem forO_nil {f : α → σ → O σ σ ρ} {s : σ} : forO (β := β) f [] s = .nx s := rfl
theorem forO_nx {f : α → σ → O σ σ ρ} {a : α} {as : List α} {s s' : σ} (h : f a s = .nx s') : forO (β := β) f (a :: as) s = forO f as s' := by
  show (match f a s with | .nx s => forO f as s | .bk s => O.nx s | .rt r => O.rt r | .ex x => O.ex x | .no => O.no) = _
  rw [h]
/-- a walk that only asks -/
theorem forO_ask {f : α → Unit → O Unit Unit ρ} : ∀ {xs : List α}, (∀ a ∈ xs, f a () = .nx ()) → forO (β := β) f xs () = .nx ()
  | [], _ => rfl
  | a :: as, h => by
    rw [forO_nx (h a List.mem_cons_self)]
    exact forO_ask fun b hb => h b (List.mem_cons_of_mem _ hb)
/-- a walk with an invariant over the part that was walked -/
theorem forO_inv {f : α → σ → O σ σ ρ} (I : List α → σ → Prop) : ∀ (xs ys : List α) (s : σ), I ys s → (∀ zs a s, a ∈ xs → I zs s → ∃ s', f a s = .nx s' ∧ I (zs ++ [a]) s') → ∃ s', forO (β := β) f xs s = .nx s' ∧ I (ys ++ xs) s'
  | [], ys, s, h, _ => ⟨s, rfl, by rw [List.append_nil]; exact h⟩
  | a :: as, ys, s, h, k => by
    obtain ⟨s1, e, h1⟩ := k ys a s List.mem_cons_self h
    obtain ⟨s2, e2, h2⟩ := forO_inv I as (ys ++ [a]) s1 h1 fun zs b t hb ht => k zs b t (List.mem_cons_of_mem _ hb) ht
    exact ⟨s2, by rw [forO_nx e, e2], by rw [List.append_assoc] at h2; exact h2⟩
theorem lcM_map {f : α → M β} {h : α → β} : ∀ {xs : List α}, (∀ a ∈ xs, f a = .ok (h a)) → lcM (fun _ => .ok true) f xs = .ok (xs.map h)
  | [], _ => rfl
  | a :: as, k => by
    unfold lcM
    rw [k a List.mem_cons_self, lcM_map fun b hb => k b (List.mem_cons_of_mem _ hb)]
    rfl
theorem lcG_map {f : α → M β} {h : α → β} {xs : List α} (k : ∀ a ∈ xs, f a = .ok (h a)) (l : xs.length ≤ LINE) : lcG (fun _ => .ok true) f xs = .ok (xs.map h) := by
  unfold lcG
  rw [lcM_map k]
  dsimp only
  rw [if_pos (by rw [List.length_map]; exact l)]
theorem lcM_filter {c : α → Bool} {f : α → M β} {h : α → β} : ∀ {xs : List α}, (∀ a ∈ xs, c a = true → f a = .ok (h a)) → lcM (fun a => .ok (c a)) f xs = .ok ((xs.filter c).map h)
  | [], _ => rfl
  | a :: as, k => by
    unfold lcM
    cases e : c a with
    | true =>
      dsimp only
      rw [k a List.mem_cons_self e, lcM_filter fun b hb => k b (List.mem_cons_of_mem _ hb)]
      dsimp only
      rw [List.filter_cons_of_pos e]
      rfl
    | false =>
      dsimp only
      rw [lcM_filter fun b hb => k b (List.mem_cons_of_mem _ hb), List.filter_cons_of_neg (by rw [e]; exact Bool.false_ne_true)]
theorem lcG_filter {c : α → Bool} {f : α → M β} {h : α → β} {xs : List α} (k : ∀ a ∈ xs, c a = true → f a = .ok (h a)) (l : xs.length ≤ LINE) : lcG (fun a => .ok (c a)) f xs = .ok ((xs.filter c).map h) := by
  unfold lcG
  rw [lcM_filter k]
  dsimp only
  rw [if_pos (by rw [List.length_map]; exact Nat.le_trans (List.length_filter_le _ _) l)]
theorem lcG_ex {f : α → M β} {Q : β → Prop} {xs : List α} (k : ∀ a ∈ xs, ∃ y, f a = .ok y ∧ Q y) (l : xs.length ≤ LINE) : ∃ ys, lcG (fun _ => .ok true) f xs = .ok ys ∧ ys.length = xs.length ∧ ∀ y ∈ ys, Q y := by
  have h : ∀ xs : List α, (∀ a ∈ xs, ∃ y, f a = .ok y ∧ Q y) → ∃ ys, lcM (fun _ => .ok true) f xs = .ok ys ∧ ys.length = xs.length ∧ ∀ y ∈ ys, Q y := by
    intro xs
    induction xs with
    | nil => exact fun _ => ⟨[], rfl, rfl, fun y hy => nomatch hy⟩
    | cons a as ih =>
      intro k
      obtain ⟨y, e, q⟩ := k a List.mem_cons_self
      obtain ⟨ys, e2, l2, q2⟩ := ih fun b hb => k b (List.mem_cons_of_mem _ hb)
      refine ⟨y :: ys, ?_, by simp [l2], ?_⟩
      · unfold lcM
        rw [e, e2]
      · intro z hz
        rcases List.mem_cons.mp hz with rfl | hz
        · exact q
        · exact q2 z hz
  obtain ⟨ys, e, l1, q⟩ := h xs k
  refine ⟨ys, ?_, l1, q⟩
  unfold lcG
  rw [e]
  dsimp only
  rw [if_pos (by omega)]
def upI (n : Nat) : List Int := (List.range n).map fun i : Nat => (i : Int)
theorem upI_len {n : Nat} : (upI n).length = n := by simp [upI]
theorem mem_upI {n : Nat} {i : Int} : i ∈ upI n ↔ 0 ≤ i ∧ i < n := by
  simp only [upI, List.mem_map, List.mem_range]
  constructor
  · rintro ⟨k, h, rfl⟩; omega
  · intro h; exact ⟨i.toNat, by omega, by omega⟩
theorem rngG_up {n : Int} (h : 0 ≤ n ∧ n < 2 ^ 62) : rngG n = .ok (upI n.toNat) := by
  unfold rngG
  exact gd_ok (by omega)
theorem eqG_eq {d d' : D} (h : pl d 60 = true) (k : pl d' 60 = true) [Decidable (d = d')] : eqG d d' = .ok (decide (d = d')) := by
  unfold eqG
  rw [gd_ok (by rw [shD_pl h, shD_pl k]; rfl)]
  congr 1
  rw [Bool.eq_iff_iff, eqD_pl d d' 60 60 h k]
  simp
theorem neG_eq {d d' : D} (h : pl d 60 = true) (k : pl d' 60 = true) [Decidable (d = d')] : neG d d' = .ok (!decide (d = d')) := by
  unfold neG
  rw [gd_ok (by rw [shD_pl h, shD_pl k]; rfl)]
  congr 2
  rw [Bool.eq_iff_iff, eqD_pl d d' 60 60 h k]
  simp
theorem eqG_self {d : D} (h : pl d 60 = true) : eqG d d = .ok true := by
  unfold eqG
  rw [gd_ok (by rw [shD_pl h]; rfl), (eqD_pl d d 60 60 h h).mpr rfl]
theorem neG_self {d : D} (h : pl d 60 = true) : neG d d = .ok false := by
  unfold neG
  rw [gd_ok (by rw [shD_pl h]; rfl), (eqD_pl d d 60 60 h h).mpr rfl]
  rfl
theorem pl_eS {x : Str} {n : Nat} (h : PyData.strOk x = true) : pl (eS x) n = true := by unfold eS pl; exact h
theorem pl_eI {x : Int} {n : Nat} : pl (eI x) n = true := by unfold eI pl; rfl
theorem pl_eL {e : α → D} {xs : List α} {n : Nat} (h : ∀ a ∈ xs, pl (e a) n = true) : pl (eL e xs) (n + 1) = true := by
  unfold eL pl
  rw [Bool.and_eq_true]
  exact ⟨by simp, pls_map h⟩
theorem strOk_sg {c : Nat} (h : c < 0x110000) : PyData.strOk (sg c) = true := by
  show Array.all #[c] (fun c => decide (c < 0x110000)) = true
  simp [h]
theorem strOk_cat {x y : Str} (h : PyData.strOk x = true) (k : PyData.strOk y = true) : PyData.strOk (x ++ y) = true := by
  show (x.cps ++ y.cps).all (fun c => decide (c < 0x110000)) = true
  rw [Array.all_append, Bool.and_eq_true]
  exact ⟨h, k⟩
theorem strOk_join {ys : List Str} (h : ∀ y ∈ ys, PyData.strOk y = true) : PyData.strOk (Txt.join "" ys) = true := by
  rw [TL.join_eq]
  induction ys with
  | nil => decide +kernel
  | cons y ys ih =>
    cases ys with
    | nil => exact h y List.mem_cons_self
    | cons z zs => exact strOk_cat (strOk_cat (h y List.mem_cons_self) (by decide +kernel)) (ih fun u hu => h u (List.mem_cons_of_mem _ hu))
theorem ixN_pos {n : Nat} {i : Int} (h : 0 ≤ i) (k : i < n) : ixN n i = some i.toNat := by
  unfold ixN
  rw [if_pos h, if_pos k]
theorem idxG_pos {xs : List α} {i : Int} (h : 0 ≤ i) (k : i < xs.length) : ∃ a, idxG xs i = .ok a ∧ xs[i.toNat]? = some a := by
  unfold idxG
  rw [ixN_pos h k]
  have : i.toNat < xs.length := by omega
  refine ⟨xs[i.toNat], ?_, List.getElem?_eq_getElem this⟩
  dsimp only
  rw [List.getElem?_eq_getElem this]
  rfl
theorem idxG_at {xs : List α} {i : Int} {a : α} (h : 0 ≤ i) (k : xs[i.toNat]? = some a) : idxG xs i = .ok a := by
  have : i.toNat < xs.length := by
    rcases Nat.lt_or_ge i.toNat xs.length with l | l
    · exact l
    · rw [List.getElem?_eq_none l] at k; cases k
  unfold idxG
  rw [ixN_pos h (by omega)]
  dsimp only
  rw [k]
  rfl
theorem idxSG_pos {x : Str} {i : Int} (hl : x.length ≤ LINE) (h : 0 ≤ i) (k : i < x.length) : ∃ c, idxSG x i = .ok (sg c) ∧ x.cps.toList[i.toNat]? = some c := by
  unfold idxSG
  rw [if_pos hl]
  have hk : i < x.cps.toList.length := by
    have : x.cps.toList.length = x.length := Array.length_toList
    omega
  have : i.toNat < x.cps.toList.length := by omega
  refine ⟨x.cps.toList[i.toNat], ?_, List.getElem?_eq_getElem this⟩
  unfold atI
  rw [ixN_pos h hk, Option.bind_some, List.getElem?_eq_getElem this]
  rfl
end
end DT
/-! Data trees, part 32: calls within except suites. -/
namespace DT
open PySem L2
section
variable {K K' : Gx}
/-- what a def does, where it lets nothing out -/
def rN (r : List T → Cr) : List T → Cr := fun ts => match r ts with
  | .ok t ps => .ok t ps
  | _ => .no
/-- the same of arguments without exceptions -/
def rH (r : List T → Cr) : List T → Cr := fun ts => if nxTs ts = true then rN r ts else .no
theorem clr_args : ∀ {ts : List T}, nxTs ts = true → clr (ts.map some) = ts.map some
  | [], _ => rfl
  | t :: ts, h => by
    unfold nxTs at h
    obtain ⟨h1, h2⟩ := and2 h
    show (if nxT t = true then some t else none) :: clr (ts.map some) = _
    rw [clr_args h2, if_pos h1]
    rfl
theorem spS_hot {p : List (Addr × Obj)} {G : PySem.W.Frag} {n : Nat} {r : List T → Cr} {vs : List V} {H : Hp} {Q : VK} {E E' : XK} (h : spS ⟨G, p⟩ n (rH r) vs H Q E) : spS ⟨G, []⟩ n (rN r) vs H Q E' := by
  obtain ⟨hl, F, L, A, ts, S, q⟩ := h
  unfold rH at q
  by_cases hx : nxTs ts = true
  · rw [if_pos hx] at q
    obtain ⟨B, S1, i⟩ := Slots.clr (K := ⟨G, p⟩) (K' := ⟨G, []⟩) rfl S.sl
    rw [clr_args hx] at S1
    refine ⟨hl, F, L, B, ts, ⟨S1, S.sF, S.sL, fun a z => S.nF a (i a z), fun a z => S.nL a (i a z)⟩, ?_⟩
    have g : Gle ⟨G, []⟩ ⟨G, p⟩ := ⟨rfl, fun _ z => by cases z⟩
    unfold rN at q ⊢
    cases e : r ts with
    | ok t ps =>
      rw [e] at q
      intro v F' H' A' C S2 rp nl dj b1 b2 st
      exact q v F' H' A' C (S2.gle g) (Rep.gle g t v C rp) nl dj b1 b2 (st.sup i)
    | ex x ps =>
      rw [e] at q
      exact q.elim
    | no =>
      rw [e] at q
      exact q.elim
  · rw [if_neg hx] at q
    exact q.elim
theorem spS_noex {n : Nat} {r : List T → Cr} {vs : List V} {H : Hp} {Q : VK} {E E' : XK} (h : spS K n (rN r) vs H Q E) : spS K n r vs H Q E' := by
  obtain ⟨hl, F, L, A, ts, S, q⟩ := h
  refine ⟨hl, F, L, A, ts, S, ?_⟩
  unfold rN at q
  cases e : r ts with
  | ok t ps =>
    rw [e] at q
    exact q
  | ex x ps =>
    rw [e] at q
    exact q.elim
  | no =>
    rw [e] at q
    exact q.elim
end
structure FokH (P : Program) (w : World) (K : PySem.W.Frag) (mg : Str → Option Value) (base : Heap) (x : Str) (l n : Nat) (r : List T → Cr) : Prop where
  ex : ∃ (f : Addr) (fd : FuncData) (ps : List Str), L2H.FnH P w K mg base (L2N.CX P w) l f fd ps (spS ⟨K, []⟩ n (rN r)) ∧ mg x = some (.ref f) ∧ PySem.W.keepIn K (.ref f) = true ∧ Binds K fd ps []
section
variable {X : Cx} {W : Wt} {e a b c : Expr} {es : List Expr} {pos pos' np p : Pos} {g g1 g2 : En → Rv} {gs : En → Rvs} {k l n : Nat} {r : List T → Cr} {x : Str}
theorem VE.callH (F : FokH X.prog X.w X.K X.mg X.base x l n r) (C : Cxh k X W) (ha : AE X W gs (e :: es)) (hj : l ≤ k := by decide) (hn : (e :: es).length = n := by rfl) (hg : Gl X x := by rfl)
    (hdb : (x == ("__debug__" : Str)) = false := by decide) (he : starEach (e :: es) X.env = (false, eval e X.env) :: starEach es X.env := by rfl) (hpl : (backTo pos (starEach es X.env)).any (·.1) = false := by rfl) : VE X W (vCall (rH r) gs) (.Call (.Name x p) (e :: es) [] pos) := by
  obtain ⟨f, fd, ps, F1, hm, hk, hb⟩ := F.ex
  subst hn
  refine pe_imp (L2H.pe_callH (E := fun _ _ _ _ => False) F1 (C.room.mono hj) C.hot hg hm hk hb (fun σ pins H s u s' I z => ?_) ha.pa hdb he hpl) fun σ H Q q => ?_
  · obtain ⟨_, _, _, _, _, _, _, _, _, _, _, _, z⟩ := z
    exact z.elim
  · obtain ⟨F0, L, A, en, S, q⟩ := call_ok (m := 0) ha.len q
    refine ⟨F0, L, A, en, S, ?_⟩
    cases e1 : gs en with
    | no =>
      rw [e1] at q
      exact q
    | ex x =>
      rw [e1] at q
      exact q
    | ok ts =>
      rw [e1] at q
      exact fun vs F1 H1 B1 p1 r1 b1 c1 => spS_hot (q vs F1 H1 B1 p1 r1 b1 c1)
/-- a def keeps its promise within a suite, too -/
theorem fn_H {P : Program} {w : World} {K : PySem.W.Frag} {mg : Str → Option Value} {base : Heap} {N ps : List Str} {x qual : Str} {params : Arguments} {body : List Stmt} {scope : Scope} {f : Addr} {fd : FuncData} {k n NN : Nat} {s : En → So} {ws : List Nat}
    (F : FunD K x qual params body scope [] [] f fd) (S : FnScope N ps scope) (hn : ps.length = n) (hN : N.length = NN) (hNN : n ≤ NN)
    (der : ∀ (cdv : Value) (A : Around) (outer : List Env) (s0 : Shared) (H : Hp) (E : XK) (q : Addr × Obj), Cxh k (L2H.cxH (L2N.CX P w) P w K mg base N qual scope f cdv A outer s0 H E q) (w0 []) → SEs (L2H.cxH (L2N.CX P w) P w K mg base N qual scope f cdv A outer s0 H E q) (w0 []) s ws body) :
    L2H.FnH P w K mg base (L2N.CX P w) (k + 1) f fd ps (spS ⟨K, []⟩ n (rN (fun ts => fin n ws (s (ini NN ts))))) := by
  subst hN
  obtain ⟨oc, od, dV, kV, doc, pm, an, cdv, ct, osl, rfl, lk, hcd, _, _⟩ := F.ex
  refine L2H.fn_ofH lk hcd S (fun vs H Q E h => by rw [hn]; exact h.1) fun A outer s0 H vs Q E q hot hr h => ?_
  refine ⟨_, der cdv A outer s0 H E q ⟨⟨q, hot, List.mem_cons_self⟩, hr, S.nd, by have := hr.un; show (A.deeper _).units + 65 < cLine; omega, fun _ z => by cases z⟩, ?_⟩
  exact spS_start (W := fun _ _ _ _ => False) (E := fun _ _ _ => False) hNN (fun _ _ _ _ z => z) rfl (spS_noex h)
end
/-! ### typed -/
section
variable {α β : Type} {e1 : β → T}
theorem rh_ok {p : M β} {r : List T → Cr} {ts : List T} (hx : nxTs ts = true) (h : RvR e1 p (r ts).v) : RvR e1 p.val (rH r ts).v := by
  unfold rH
  rw [if_pos hx]
  unfold rN
  cases p with
  | ok a =>
    cases e : r ts with
    | ok t ps =>
      rw [e] at h
      exact h
    | ex x ps =>
      rw [e] at h
      cases (show Rv.ex x = .ok (e1 a) from h)
    | no =>
      rw [e] at h
      cases (show Rv.no = .ok (e1 a) from h)
  | ex x => trivial
  | no => trivial
end
end DT
/-! Data trees, part 33: methods of lists that ask. -/
namespace DT
open PySem L2
section
variable {X : Cx} {W : Wt} {K : Gx} {e o : Expr} {pos apos : Pos} {g1 g2 : En → Rv}
def rCountD (G : PySem.W.Frag) : V → List V → Hp → VK → Prop := fun x xs H Q => ∃ (a : Addr) (y : V) (d : PyData) (ds : List PyData), x = .ref a ∧ xs = [y] ∧ Dp G H (.ref a) (.list ds) ∧ Dp G H y d ∧ SeqAt.shaped (.list ds) = true ∧ SeqAt.shaped d = true ∧ Q (.int ((ds.countP fun z => PyData.eqv z d : Nat) : Int)) H
theorem mt_countD (hu : X.A.units + 65 < cLine) : MtR X "list.count" (rCountD X.K) := by
  intro pins s σ H x xs v us Q I rx rxs h
  obtain ⟨a, y, d, ds, rfl, rfl, lay, ly, shl, shd, q⟩ := h
  cases rx
  obtain ⟨uy, rfl, ry⟩ := rxs.one
  obtain ⟨as, ra⟩ := Dp.reads I d y uy ly ry
  have can : PyData.canLayAll0 ds = true := SeqAt.canLay_of_shaped shl
  cases lay with
  | lst hs al =>
    obtain ⟨its, rv, ⟨⟨cls, dd, data, sl⟩, n, at_, hc, hn, hd⟩, _⟩ := I.list hs
    simp only at hc hd
    subst hc hd
    obtain ⟨bs, rb⟩ := Dp.readsAll I ds _ its al rv
    have mp : its.map (SeqAt.readOf s.heap) = ds := SeqAt.readsAll_map ds its bs can rb
    have cnt : (its.toArray.toList.countP fun u => PyData.eqv (SeqAt.readOf s.heap u) d) = ds.countP fun z => PyData.eqv z d := by
      rw [← mp, List.countP_map]
      rfl
    have same := SeqAt.items_eqAt (vs := its.toArray) (show ReadsAll s.heap its.toArray.toList ds bs from rb) ra can (SeqAt.canLay_of_shaped shd) (PyProof.Rows.room_in_shaped shd hu)
    have meets := SeqAt.list_countAt a its.toArray n dd sl uy (fun u => PyData.eqv (SeqAt.readOf s.heap u) d)
    refine call_meets PySem.F.slot_list_count ⟨_, at_, rfl⟩ PySem.F.entry_list_count (PySem.F.args_list_count_2 _ _) meets ⟨at_, same, ?_⟩
    rw [← cnt] at q
    exact ⟨.int _, H, I.tok _, ⟨_, rfl⟩, q⟩
/-- of lists alone -/
def lOnly (g : En → Rv) : En → Rv := fun en => match g en with
  | .ok t => (match kids t with
    | some (.lst, _) => .ok t
    | _ => .no)
  | r => r
theorem lOnly_ok {W : WX} {σ : L2.St} {H : Hp} {Q : VK} {g : En → Rv} (q : tV K (lOnly g) W σ H Q) : tV K g W σ H fun x H1 => tyV K.K "list" x H1 ∧ Q x H1 := by
  obtain ⟨F, L, A, en, S, q⟩ := q
  refine ⟨F, L, A, en, S, ?_⟩
  unfold lOnly at q
  cases e1 : g en with
  | no =>
    rw [e1] at q
    exact q
  | ex x =>
    rw [e1] at q
    exact q
  | ok t =>
    rw [e1] at q
    dsimp only at q
    cases e2 : kids t with
    | none =>
      rw [e2] at q
      exact q.elim
    | some kt =>
      obtain ⟨kd, ts⟩ := kt
      rw [e2] at q
      cases kd with
      | lst =>
        intro v F' H' B p r b c
        have S1 := S.pur p
        obtain ⟨a, vs, B2, rfl, ob, _, _⟩ := Rep.kids r e2 S1.sF (vw_same S1.sL)
        exact ⟨.inl ⟨rfl, vs, SqL.of (show H' a = some (.lst vs) from ob)⟩, q _ F' H' B p r b c⟩
      | scr => exact q.elim
      | tup => exact q.elim
      | dic ks => exact q.elim
      | ins c fs => exact q.elim
      | exc c fs => exact q.elim
def countT (t u : T) : Option T := match kids t with
  | some (.lst, ts) => if (shD (era u) && shD (.n .lst (eras ts))) = true then some (.i ((eras ts).countP fun e => eqD e (era u) : Nat)) else none
  | _ => none
theorem countP_toPy (d : D) : ∀ ds : List D, ((toPys ds).countP fun z => PyData.eqv z (toPy d)) = ds.countP fun e => eqD e d
  | [] => rfl
  | e :: ds => by
    show ((toPy e :: toPys ds).countP fun z => PyData.eqv z (toPy d)) = _
    rw [List.countP_cons, List.countP_cons, countP_toPy d ds]
    rfl
theorem o2_count : Op2 K (fun v u H Q => rCountD K.K v [u] H Q) countT := Op2.flat fun F L H x y t1 t2 t A1 A2 sF sL r1 r2 e => by
  unfold countT at e
  split at e
  · rename_i us ek
    split at e
    · rename_i c
      cases e
      obtain ⟨c1, c2⟩ := Bool.and_eq_true_iff.mp c
      have c3 : SeqAt.shaped (.list (toPys (eras us))) = true := c2
      have et : toPy (era t1) = .list (toPys (eras us)) := by
        rw [kids_era ek]
        rfl
      obtain ⟨p, vs, B, rfl, _, _, _⟩ := Rep.kids r1 ek sF sL
      have l1 := Rep.dp sF sL t1 _ A1 r1 (by rw [et]; exact shaped_can c3)
      rw [et] at l1
      have l2 := Rep.dp sF sL t2 y A2 r2 (shaped_can c1)
      exact ⟨_, rfl, fun Q q => ⟨p, y, _, _, rfl, rfl, l1, l2, c3, c1, by rw [countP_toPy]; exact q⟩⟩
    · cases e
  · cases e
theorem tCons_tVA {g : En → Rv} {W : WX} : True := trivial
theorem VE.count (hu : X.A.units + 65 < cLine) (h : VE X W g1 o) (h2 : VE X W g2 e) (hbase : attributeBase o "count" X.env (eval o X.env) = eval o X.env := by rfl)
    (hfew : ((backTo pos (starEach [e] X.env)).all (fun x => !x.1) && (backToKw pos (keywordEach [] X.env)).all (fun x => x.1.isSome) && decide (([e] : List Expr).length + ([] : List Keyword).length + (if ([] : List Keyword).isEmpty then 0 else 1) < 30)) = true := by rfl)
    (hline : (apos.endLine == pos.line) = true := by rfl) (hs : starEach [e] X.env = (false, eval e X.env) :: starEach [] X.env := by rfl) (hplain : (backTo pos (starEach [] X.env)).any (·.1) = false := by rfl) :
    VE X W (v2 countT (lOnly g1) g2) (.Call (.Attribute o "count" apos) [e] [] pos) :=
  pe_imp (pe_bm PySem.F.plainAttrs_list PySem.F.slot_list_count PySem.F.type_list_count (mt_countD hu) h (pa_cons h2 pa_nil hs) hbase hfew hline hs hplain) fun σ H Q q => lOnly_ok (v2_ok o2_count q)
end
end DT
/-! Data trees, part 34: typed readings of parts 32, 33. -/
namespace DT
open PySem L2
section
variable {α β : Type} {e1 : β → T} {s : α → T} {S : List α → T} {xs : List α} {en : En} {g g1 g2 g3 : En → Rv} {u : T} {d : D} {ds : List D} {i j c : Int}
def hotM (ts : List T) (p : M β) : M β := if nxTs ts = true then p.val else .no
theorem rh_okM {p : M β} {r : List T → Cr} {ts : List T} (h : RvR e1 p (r ts).v) : RvR e1 (hotM ts p) (rH r ts).v := by
  unfold hotM
  by_cases hx : nxTs ts = true
  · rw [if_pos hx]
    exact rh_ok hx h
  · rw [if_neg hx]
    trivial
theorem t_lo (h : RdL S s) (hg : g en = .ok (S xs)) : lOnly g en = .ok (S xs) := by
  unfold lOnly
  rw [hg]
  dsimp only
  rw [h.k xs]
def countDG (d : D) (ds : List D) : M Int := gd ((shD d && shD (.n .lst ds)) = true) ((ds.countP fun e => eqD e d : Nat) : Int)
theorem g_count (h : RdL S s) (h1 : era u = d) (h2 : eras (xs.map s) = ds) : RoR (F eI) (countDG d ds) (countT (S xs) u) := ro_gd fun c => by
  unfold countT
  rw [h.k xs]
  dsimp only
  rw [h1, h2, if_pos c]
@[irreducible] def rng3G (i j c : Int) : M (List Int) := gd (((-(2 ^ 61) ≤ i ∧ i < 2 ^ 61) ∧ -(2 ^ 61) ≤ j ∧ j < 2 ^ 61) ∧ 0 < c ∧ c < 1073741824) ((List.range (if i < j then ((j - i - 1) / c + 1).toNat else 0)).map fun k : Nat => i + (k : Int) * c)
theorem g_rng3 (h : g1 en = .ok (F eI i)) (h2 : g2 en = .ok (F eI j)) (h3 : g3 en = .ok (F eI c)) : RiR (F eI) (rng3G i j c) (iRgC (aCons g1 (aCons g2 (aCons g3 aNil))) en) := by
  unfold iRgC
  rw [aCons_at, aCons_at, aCons_at, h, h2, h3]
  unfold rng3G gd
  show RiR _ _ (match rgC [.f (.a (.int i)), .f (.a (.int j)), .f (.a (.int c))] with | some us => Ri.ok us | none => .no)
  rw [rgC_3]
  by_cases hc : ((-(2 ^ 61) ≤ i ∧ i < 2 ^ 61) ∧ -(2 ^ 61) ≤ j ∧ j < 2 ^ 61) ∧ 0 < c ∧ c < 1073741824
  · rw [if_pos hc, if_pos hc]
    show _ = Ri.ok (((List.range _).map fun k : Nat => i + (k : Int) * c).map (F eI))
    rw [List.map_map]
    rfl
  · rw [if_neg hc]
    trivial
theorem t_c {d : D} : vC d en = .ok (.f d) := rfl
def O.noX {σ β ρ : Type} (o : O σ β ρ) : O σ β ρ := match o with
  | .ex _ => .no
  | o => o
theorem j_noX {σ β ρ : Type} {N : σ → En → Prop} {B : β → En → Prop} {R : ρ → T → En → Prop} {o : O σ β ρ} {r : So} (h : SoR ⟨N, B, R, fun _ => True⟩ o r) : SoR ⟨N, B, R, fun _ => False⟩ (O.noX o) r := by
  cases o with
  | ex x => trivial
  | nx a => exact h
  | bk a => exact h
  | rt a => exact h
  | no => trivial
end
end DT
/-! Data trees, part 35: texts replaced, repeated, parted. -/
namespace DT
open PySem L2
abbrev VET (X : Cx) (W : Wt) (g : En → Rv) (e : Expr) : Prop := PET X e (tV (gx X W) g W.w)
abbrev SET (X : Cx) (W : Wt) (s : En → So) (ws : List Nat) (st : Stmt) : Prop := PST X st (tS (gx X W) s W.w ws)
abbrev SETs (X : Cx) (W : Wt) (s : En → So) (ws : List Nat) (st : List Stmt) : Prop := PSsT X st (tS (gx X W) s W.w ws)
section
variable {X : Cx} {W : Wt} {K : Gx} {e o c : Expr} {st : Stmt} {rest a b : List Stmt} {s s1 s2 : En → So} {w1 w2 ws : List Nat} {g : En → Rv} {p : En → Rb} {pos apos c0 c1 pos' : Pos} {y z : Str} {j k i : Nat}
theorem psst_imp {t t' : TS} (h : PSsT X rest t) (i : ∀ D σ H, t' D σ H → t D σ H) : PSsT X rest t' := fun pins s σ H D h0 I q => h pins s σ H D h0 I (i D σ H q)
theorem pst_imp {t t' : TS} (h : PST X st t) (i : ∀ D σ H, t' D σ H → t D σ H) : PST X st t' := fun pins s σ H D h0 I q => h pins s σ H D h0 I (i D σ H q)
theorem pet_imp {t t' : TE} (h : PET X e t) (i : ∀ σ H Q, t' σ H Q → t σ H Q) : PET X e t' := fun pins s σ H Q h0 I q => h pins s σ H Q h0 I (i σ H Q q)
theorem SET.of (h : SE X W s ws st) : SET X W s ws st := PST.of h
theorem SETs.of (h : SEs X W s ws rest) : SETs X W s ws rest := PSsT.of h
theorem SETs.one (h : SET X W s ws st) : SETs X W s ws [st] := fun pins s0 σ H D h0 I q => (CwR.psst_one h) pins s0 σ H D h0 I q
theorem SETs.cons (h : SET X W s1 w1 st) (h2 : SETs X W s2 w2 rest) : SETs X W (sSeq s1 s2) (w1 ++ w2) (st :: rest) := psst_imp (psst_cons h h2) fun D σ H q => seq_ok q
theorem SET.ite (hc : VT X W p c) (ha : SETs X W s1 w1 a) (hb : SETs X W s2 w2 b) : SET X W (sIf p s1 s2) (w1 ++ w2) (.If c a b pos) := pst_imp (CwR.pst_if hc ha hb) fun D σ H q => ite_ok q
theorem liftV_ok {w : WX} {σ : L2.St} {H : Hp} {Q : VK} (q : tE K (liftV g) w σ H Q) : tV K g w σ H Q := by
  obtain ⟨F, L, A, en, S, q⟩ := q
  refine ⟨F, L, A, en, S, ?_⟩
  unfold liftV at q
  cases e1 : g en with
  | ok t =>
    rw [e1] at q
    exact fun v F' H' B p r b1 b2 => q v F' H' A B (S.pur p) r (fun x z y => absurd (b1 x y) (S.sl.dom x z)) b2 (fun x z => S.sL.free (b1 x z)) (p.step b1)
  | ex x =>
    rw [e1] at q
    exact fun cls d F' H' p r => q cls d F' H' A (S.pur p) r p.step0
  | no =>
    rw [e1] at q
    exact q
theorem SET.ret (h : VET X W g e) : SET X W (sRet (liftV g)) [] (.Return (some e) pos) := pst_imp (CwR.pst_ret (pet_imp h fun σ H Q q => liftV_ok q)) fun D σ H q => ret_ok q
/-- behind the first written text that is stored, a token is out -/
theorem SEs.str {x : Str} (nd : X.N.Nodup) (h2 : SETs X W s2 w2 rest) (hi : X.N[i]? = some x := by rfl) (hx : Loc X.env.scope x := by first | exact Or.inl rfl | exact Or.inr rfl)
    (hs : swapsWith (.Constant (.str y) j c0) (some (.Name x pos')) pos.line X.env = pure false := by rfl) (hf : X.fn x = true ∨ X.env.scope.names.lookup x = some .local := by first | exact .inl rfl | exact .inr rfl) :
    SEs X W (sSeq (sAsg i (liftV (vC (.a (.str y))))) s2) ([i] ++ w2) (.Assign [.Name x pos'] (.Constant (.str y) j c0) pos :: rest) :=
  pss_imp (pss_str nd hi hx h2 hs hf) fun D σ H q => by
    obtain ⟨F, L, A, en, S, q⟩ := seq_ok q
    obtain ⟨A2, S2, i2⟩ := Stk.put (i := i) S (Rep.of_flat (x := .str y)) dj_e (fun _ z => z.elim) fun _ z => z.elim
    exact q _ F H A2 S2 ((Pur.refl S.sF).step0.sub fun a h => (i2 a h).elim id fun h => h.elim) Wr.set
/-! ### replace -/
def replT (y z : Str) : T → Option T
  | .f (.a (.str x)) => if x.length + (x.length + 1) * z.length ≤ 16777216 then some (.s (Txt.replace x y z)) else none
  | _ => none
theorem repl_ok {w : WX} {σ : L2.St} {H : Hp} {Q : VK} (q : tV K (v1 (replT y z) g) w σ H Q) : CwR.tReplC (tV K g w) y z σ H Q := by
  obtain ⟨F, L, A, en, S, q⟩ := q
  refine ⟨F, L, A, en, S, ?_⟩
  unfold v1 at q
  cases e1 : g en with
  | ok t =>
    rw [e1] at q
    dsimp only at q
    intro v F' H' B p r b1 b2
    cases e2 : replT y z t with
    | none =>
      rw [e2] at q
      exact q.elim
    | some u =>
      rw [e2] at q
      unfold replT at e2
      split at e2
      · rename_i x
        split at e2
        · rename_i hl
          cases e2
          obtain ⟨rfl, _⟩ := r.flat
          exact ⟨x, rfl, hl, q _ F' H' fe p Rep.of_flat (fun _ z => z.elim) fun _ z => z.elim⟩
        · cases e2
      · cases e2
  | ex x =>
    rw [e1] at q
    exact q
  | no =>
    rw [e1] at q
    exact q
theorem VET.repl (h : VE X W g o) (hyz : (y == z) = false := by decide)
    (hst : starEach [.Constant (.str y) j c0, .Constant (.str z) k c1] X.env = [(false, eval (.Constant (.str y) j c0) X.env), (false, eval (.Constant (.str z) k c1) X.env)] := by rfl)
    (hbase : attributeBase o "replace" X.env (eval o X.env) = eval o X.env := by rfl) (hline : (apos.endLine == pos.line) = true := by rfl) :
    VET X W (v1 (replT y z) g) (.Call (.Attribute o "replace" apos) [.Constant (.str y) j c0, .Constant (.str z) k c1] [] pos) :=
  pet_imp (CwR.pet_replC h hyz hst hbase hline) fun σ H Q q => repl_ok q
/-! ### a text a number of times -/
def repS (x : Str) (n : Int) : Str := ⟨(List.replicate n.toNat x.cps).foldl (· ++ ·) #[]⟩
def rMulS : R2 := fun x y H Q => ∃ (a : Str) (n : Int), x = .str a ∧ y = .int n ∧ -(2 ^ 63) ≤ n ∧ n < 2 ^ 63 ∧ a.length * n.toNat ≤ 16777216 ∧ Q (.str (repS a n)) H
theorem fold_empty : ∀ n : Nat, (List.replicate n (#[] : Array Nat)).foldl (· ++ ·) #[] = #[]
  | 0 => rfl
  | n + 1 => by
    rw [List.replicate_succ, List.foldl_cons]
    exact fold_empty n
theorem op_mulS : OpR X (binaryOp .Mult) rMulS := by
  intro pins s σ H x y v u Q I rx ry h
  obtain ⟨a, n, rfl, rfl, h1, h2, h3, q⟩ := h
  obtain ⟨t, rfl⟩ := rx
  obtain ⟨t', rfl⟩ := ry
  have tl : Builtin.Str.tooLong (a.length * n.toNat) = false := decide_eq_false (by
    have := sizeLine_eq
    omega)
  refine PySem.P.mul_str (by rw [decide_eq_false (by omega), decide_eq_false (by omega)]; rfl) (fun z1 z2 => ?_) (fun z1 z2 => ?_) ?_
  · have hn : 0 < n := by omega
    have e1 : ((a.length * n.toNat : Nat) : Int) = (a.length : Int) * n := by
      rw [Int.natCast_mul]
      congr 1
      omega
    have e2 : (a.length : Int) * n ≤ 16777216 := by rw [← e1]; omega
    have e3 : (a.length : Int) ≤ (2 ^ 63 - 1) / n := by
      rw [Int.le_ediv_iff_mul_le hn]
      omega
    omega
  · exact tl
  · by_cases z1 : n < 1
    · rw [if_pos z1]
      have e0 : repS a n = Str.empty := by
        unfold repS
        rw [show n.toNat = 0 by omega]
        rfl
      rw [e0] at q
      exact ⟨by decide, .str _, H, I.tok _, ⟨_, rfl⟩, q⟩
    · rw [if_neg z1]
      by_cases z2 : (n == 1 || a.length == 0) = true
      · rw [if_pos z2]
        have e0 : repS a n = a := by
          rcases Bool.or_eq_true_iff.mp z2 with z3 | z3
          · rw [eq_of_beq z3]
            show (⟨#[] ++ a.cps⟩ : Str) = a
            rw [Array.empty_append]
          · have z4 : a.cps = #[] := Array.eq_empty_of_size_eq_zero (eq_of_beq z3)
            unfold repS
            rw [z4, fold_empty]
            exact congrArg Str.mk z4.symm
        rw [e0] at q
        exact ⟨.str a, H, I, ⟨t, rfl⟩, q⟩
      · rw [if_neg z2]
        exact ⟨fits_reps tl, .str _, H, I.tok _, ⟨_, rfl⟩, q⟩
def mulsT : T → T → Option T
  | .f (.a (.str x)), .f (.a (.int n)) => if -(2 ^ 63) ≤ n ∧ n < 2 ^ 63 ∧ x.length * n.toNat ≤ 16777216 then some (.s (repS x n)) else none
  | _, _ => none
theorem o2_mulS : Op2 K rMulS mulsT := Op2.flat fun F L H x y t1 t2 t A1 A2 _ _ r1 r2 e => by
  unfold mulsT at e
  split at e
  · split at e
    · rename_i h
      cases e
      obtain ⟨rfl, _⟩ := r1.flat
      obtain ⟨rfl, _⟩ := r2.flat
      exact ⟨_, rfl, fun Q q => ⟨_, _, rfl, rfl, h.1, h.2.1, h.2.2, q⟩⟩
    · cases e
  · cases e
/-! ### partition -/
def partT : T → T → Option T
  | .f (.a (.str x)), .f (.a (.str y)) => if (y.length == 0) = false ∧ x.length ≤ LINE then some (.n .ow .tup [T.s (Txt.partition x y).1, T.s (Txt.partition x y).2.1, T.s (Txt.partition x y).2.2]) else none
  | _, _ => none
theorem o2_part : Op2 K (fun v u H Q => (fun x xs H Q => ∃ a b, x = .str a ∧ xs = [.str b] ∧ (b.length == 0) = false ∧ a.length ≤ sizeLine ∧ ∀ p, H p = none → Q (.ref p) (upd H p (.tup [.str (Txt.partition a b).1, .str (Txt.partition a b).2.1, .str (Txt.partition a b).2.2])) : V → List V → Hp → VK → Prop) v [u] H Q) partT := by
  intro F L H x y t1 t2 t A1 A2 Q sF sL r1 r2 dj e q
  unfold partT at e
  split at e
  · rename_i a b
    split at e
    · rename_i h
      cases e
      obtain ⟨rfl, _⟩ := r1.flat
      obtain ⟨rfl, _⟩ := r2.flat
      refine ⟨a, b, rfl, rfl, h.1, h.2, fun p hn => ?_⟩
      have rr : ∀ u v w : Str, Reps K F L H [T.s u, T.s v, T.s w] [.str u, .str v, .str w] fe := fun u v w => by
        unfold Reps
        refine ⟨_, _, fe, fe, rfl, fu_e.symm, e_dj, Rep.of_flat, ?_⟩
        unfold Reps
        refine ⟨_, _, fe, fe, rfl, fu_e.symm, e_dj, Rep.of_flat, ?_⟩
        unfold Reps
        exact ⟨_, _, fe, fe, rfl, fu_e.symm, e_dj, Rep.of_flat, Reps.nil⟩
      obtain ⟨h1, h2⟩ := Rep.node (k := .tup) (o := .tup _) (rr _ _ _) hn sL sF upd_same
      refine q _ _ _ h2 h1 fun a z => ?_
      rcases z with z | z
      · obtain rfl : a = p := z
        exact .inr (.inr hn)
      · exact z.elim
    · cases e
  · cases e
end
/-! ### typed -/
section
variable {x y z : Str} {i : Int}
@[irreducible] def repSG (x : Str) (n : Int) : M Str := gd (-(2 ^ 63) ≤ n ∧ n < 2 ^ 63 ∧ x.length * n.toNat ≤ 16777216) (repS x n)
theorem g_repS : RoR (F eS) (repSG x i) (mulsT (F eS x) (F eI i)) := by
  unfold repSG
  refine ro_gd fun h => ?_
  show (if -(2 ^ 63) ≤ i ∧ i < 2 ^ 63 ∧ x.length * i.toNat ≤ 16777216 then some (T.s (repS x i)) else none) = _
  rw [if_pos h]
def replG (y z x : Str) : M Str := gd (x.length + (x.length + 1) * z.length ≤ 16777216) (Txt.replace x y z)
theorem g_repl : RoR (F eS) (replG y z x) (replT y z (F eS x)) := ro_gd fun h => by
  show (if x.length + (x.length + 1) * z.length ≤ 16777216 then some (T.s (Txt.replace x y z)) else none) = _
  rw [if_pos h]
def partG (x y : Str) : M (Str × Str × Str) := gd ((y.length == 0) = false ∧ x.length ≤ LINE) ((Txt.partition x y).1, (Txt.partition x y).2.1, (Txt.partition x y).2.2)
theorem g_part : RoR (OP3 (F eS) (F eS) (F eS)) (partG x y) (partT (F eS x) (F eS y)) := ro_gd fun h => by
  show (if (y.length == 0) = false ∧ x.length ≤ LINE then some (T.n .ow .tup [T.s (Txt.partition x y).1, T.s (Txt.partition x y).2.1, T.s (Txt.partition x y).2.2]) else none) = _
  rw [if_pos h]
  rfl
variable {σ β ρ : Type} {P : Po σ β ρ} {s : ρ → T} {en : En} {g : En → Rv} {p : M ρ}
/-- handed back, where no exception is within -/
def rtNx (s : ρ → T) (a : ρ) : O σ β ρ := if nxT (s a) = true then .rt a else .no
theorem j_retX (h : RvR s p (g en)) (hx : P.ex en) (nl : ∀ a, noLk (s a) = true) (hr : ∀ a, nxT (s a) = true → P.rt a (s a) en) : SoR P (O.bind p (rtNx s)) (sRet (liftV g) en) := by
  rw [sRet_at, liftV_at]
  cases p with
  | ok a =>
    show SoR P (rtNx s a) _
    unfold rtNx
    by_cases c : nxT (s a) = true
    · rw [if_pos c, show g en = .ok (s a) from h, lR_ok, reS_ok, if_pos (nl a)]
      exact ⟨_, _, rfl, nl a, hr a c⟩
    · rw [if_neg c]
      trivial
  | ex x =>
    rw [show g en = .ex x from h]
    exact ⟨en, rfl, hx⟩
  | no => trivial
theorem ok_rv {α : Type} {s : α → T} {a : α} {r : Rv} (h : RvR s (.ok a) r) : r = .ok (s a) := h
theorem repSG_ok {x : Str} {n : Int} (h : -(2 ^ 63) ≤ n ∧ n < 2 ^ 63 ∧ x.length * n.toNat ≤ 16777216) : repSG x n = .ok (repS x n) := by
  unfold repSG
  exact gd_ok h
theorem rng2G_ok {i j : Int} (h : (-(2 ^ 62) ≤ i ∧ i < 2 ^ 62) ∧ -(2 ^ 62) ≤ j ∧ j < 2 ^ 62) : rng2G i j = .ok ((List.range (j - i).toNat).map fun k : Nat => i + (k : Int)) := by
  unfold rng2G
  exact gd_ok h
theorem rng3G_ok {i j c : Int} (h : ((-(2 ^ 61) ≤ i ∧ i < 2 ^ 61) ∧ -(2 ^ 61) ≤ j ∧ j < 2 ^ 61) ∧ 0 < c ∧ c < 1073741824) : rng3G i j c = .ok ((List.range (if i < j then ((j - i - 1) / c + 1).toNat else 0)).map fun k : Nat => i + (k : Int) * c) := by
  unfold rng3G
  exact gd_ok h
theorem lrgG_ok {n : Int} (h : 0 ≤ n ∧ n ≤ 16777216) : lrgG n = .ok (upI n.toNat) := gd_ok h
/-- a walk with an invariant over the part that was walked, and what is left -/
theorem forO_pre {α : Type} {f : α → σ → O σ σ ρ} (I : List α → σ → Prop) : ∀ (xs ys : List α) (s : σ), I ys s → (∀ zs a rs s, ys ++ xs = zs ++ a :: rs → I zs s → ∃ s', f a s = .nx s' ∧ I (zs ++ [a]) s') → ∃ s', forO (β := β) f xs s = .nx s' ∧ I (ys ++ xs) s'
  | [], ys, s, h, _ => ⟨s, rfl, by rw [List.append_nil]; exact h⟩
  | a :: as, ys, s, h, k => by
    obtain ⟨s1, e, h1⟩ := k ys a as s rfl h
    obtain ⟨s2, e2, h2⟩ := forO_pre I as (ys ++ [a]) s1 h1 fun zs b rs t hb ht => k zs b rs t (by rw [← hb, List.append_assoc]; rfl) ht
    exact ⟨s2, by rw [forO_nx e, e2], by rw [List.append_assoc] at h2; exact h2⟩
end
end DT
namespace Lw
open PySem PySem.Spec PyProof.Rows L2 DT
def top (i : Nat) : Stmt := PySem.Challenge.pw_fleetpath_k14_clock_read.main.body.getD i (.Pass ⟨0, 0, 0, 0⟩)
def cbody : Stmt → List Stmt
  | .ClassDef _ _ _ b _ _ _ _ _ _ _ => b
  | _ => []
def cst (i j : Nat) : Stmt := (cbody (top i)).getD j (.Pass ⟨0, 0, 0, 0⟩)
def tb_str : List (Cd × Bool) := [(.ty "int", false), (.ty "bool", false), (.ty "str", true), (.ty "NoneType", false), (.ty "list", false), (.ty "tuple", false), (.ty "dict", false), (.own "BadName", false), (.own "BadNumber", false), (.own "BadTime", false), (.own "TooMany", false), (.own "Twice", false), (.own "NoPlace", false), (.own "NoTrip", false), (.own "NoWay", false)]
def tb_BadTime : List (Cd × Bool) := [(.ty "int", false), (.ty "bool", false), (.ty "str", false), (.ty "NoneType", false), (.ty "list", false), (.ty "tuple", false), (.ty "dict", false), (.own "BadName", false), (.own "BadNumber", false), (.own "BadTime", true), (.own "TooMany", false), (.own "Twice", false), (.own "NoPlace", false), (.own "NoTrip", false), (.own "NoWay", false)]
def tb_ValueError : List (Cd × Bool) := [(.ty "int", false), (.ty "bool", false), (.ty "str", false), (.ty "NoneType", false), (.ty "list", false), (.ty "tuple", false), (.ty "dict", false), (.own "BadName", true), (.own "BadNumber", true), (.own "BadTime", true), (.own "TooMany", true), (.own "Twice", true), (.own "NoPlace", true), (.own "NoTrip", true), (.own "NoWay", true)]
def tb_of_BadName_7 : List (Cd × Bool) := [(.ty "int", false), (.ty "bool", false), (.ty "str", false), (.ty "NoneType", false), (.ty "list", false), (.ty "tuple", false), (.ty "dict", false), (.own "BadName", true), (.own "BadNumber", true), (.own "BadTime", false), (.own "TooMany", true), (.own "Twice", true), (.own "NoPlace", true), (.own "NoTrip", true), (.own "NoWay", true)]
def tb_int : List (Cd × Bool) := [(.ty "int", true), (.ty "bool", true), (.ty "str", false), (.ty "NoneType", false), (.ty "list", false), (.ty "tuple", false), (.ty "dict", false), (.own "BadName", false), (.own "BadNumber", false), (.own "BadTime", false), (.own "TooMany", false), (.own "Twice", false), (.own "NoPlace", false), (.own "NoTrip", false), (.own "NoWay", false)]
def tb_bool : List (Cd × Bool) := [(.ty "int", false), (.ty "bool", true), (.ty "str", false), (.ty "NoneType", false), (.ty "list", false), (.ty "tuple", false), (.ty "dict", false), (.own "BadName", false), (.own "BadNumber", false), (.own "BadTime", false), (.own "TooMany", false), (.own "Twice", false), (.own "NoPlace", false), (.own "NoTrip", false), (.own "NoWay", false)]
def ct0 : List (String × Bool) := [("BadName", true), ("BadNumber", true), ("BadTime", true), ("TooMany", true), ("Twice", true), ("NoPlace", true), ("NoTrip", true), ("NoWay", true)]
structure Tx (K : PySem.W.Frag) (mg : Str → Option Value) : Prop where
  fr_ValueError : mg "ValueError" = none
  fr_bool : mg "bool" = none
  fr_int : mg "int" = none
  fr_isinstance : mg "isinstance" = none
  fr_len : mg "len" = none
  fr_range : mg "range" = none
  fr_str : mg "str" = none
  gi_DAY : ∃ t, mg "DAY" = some (.int 1440 t)
  gi_HOUR : ∃ t, mg "HOUR" = some (.int 60 t)
  gi_LIMIT : ∃ t, mg "LIMIT" = some (.int 1000000000 t)
  gs_FIGURES : ∃ t, mg "FIGURES" = some (.str "0123456789" t)
  gc_BadName : mg "BadName" = some (.ref (cA K "BadName"))
  gc_BadNumber : mg "BadNumber" = some (.ref (cA K "BadNumber"))
  gc_BadTime : mg "BadTime" = some (.ref (cA K "BadTime"))
  gc_FleetError : mg "FleetError" = some (.ref (cA K "FleetError"))
  gc_NoPlace : mg "NoPlace" = some (.ref (cA K "NoPlace"))
  gc_NoTrip : mg "NoTrip" = some (.ref (cA K "NoTrip"))
  gc_NoWay : mg "NoWay" = some (.ref (cA K "NoWay"))
  gc_TooMany : mg "TooMany" = some (.ref (cA K "TooMany"))
  gc_Twice : mg "Twice" = some (.ref (cA K "Twice"))
  isstr : isOk K [.ty "str"] tb_str = true
  isBadTime : isOk K [.own "BadTime"] tb_BadTime = true
  isValueError : isOk K [.ty "ValueError"] tb_ValueError = true
  isof_BadName_7 : isOk K [.own "BadName", .own "BadNumber", .own "TooMany", .own "Twice", .own "NoPlace", .own "NoTrip", .own "NoWay"] tb_of_BadName_7 = true
  isint : isOk K [.ty "int"] tb_int = true
  isbool : isOk K [.ty "bool"] tb_bool = true
  ca0 : caB K "FleetError" ct0 = true
  xf0 : xfOk K ["BadTime"] "text" = true
  tt : True
section
variable {P : Program} {w : World} {K : PySem.W.Frag} {mg : Str → Option Value} {base : Heap} {f : Addr} {fd : FuncData}
theorem sx_BadTime : FnScope ["self", "text"] ["self", "text"] (defScope (cst 5 0)) := ⟨rfl, rfl, rfl, by decide +kernel, rfl, by decide +kernel, by decide +kernel⟩
theorem ok_BadTime (hb : xiB K "BadTime" ["text"] = true) (hm : mg "BadTime" = some (.ref (cA K "BadTime"))) (F : FunD K "__init__" "BadTime.__init__" (defArgs (cst 5 0)) (defBody (cst 5 0)) (defScope (cst 5 0)) [] [] (He.ma K (cA K "BadTime") "__init__") fd) : Xok P w K mg base "BadTime" 1 [("text", 0)] :=
  Xok.mk' hb hm F sx_BadTime rfl (by decide) (by decide) (fun cdv A outer s H E => .cons (pe_var (i := 0) rfl (Or.inl rfl)) (pe_var (i := 1) rfl (Or.inl rfl)) rfl (.nil)) (F.bindsN fun _ _ _ _ _ _ us hl => match us, hl with | [_, _], _ => rfl)
def sem__law_days : En → So := (sSeq (sAsg 1 (liftV (v2 modT (v2 mulT (v2 modT (vVar 0) (vC (.a (.int 1000000007)))) (vC (.a (.int 48271)))) (vC (.a (.int 65537)))))) (sSeq (sIf (vB (v2 eqT (v2 modT (vVar 1) (vC (.a (.int 4)))) (vC (.a (.int 0))))) (sRet (liftV (v2 modT (v2 fdivT (vVar 1) (vC (.a (.int 4)))) (vC (.a (.int 12)))))) sNx) (sSeq (sIf (vB (v2 eqT (v2 modT (vVar 1) (vC (.a (.int 4)))) (vC (.a (.int 1))))) (sRet (liftV (v2 modT (vVar 0) (vC (.a (.int 694445)))))) sNx) (sSeq (sIf (vB (v2 eqT (v2 modT (vVar 1) (vC (.a (.int 4)))) (vC (.a (.int 2))))) (sRet (liftV (v2 addT (vC (.a (.int 694443))) (v2 modT (v2 fdivT (vVar 1) (vC (.a (.int 4)))) (vC (.a (.int 4))))))) sNx) (sRet (liftV (v2 modT (vVar 0) (v2 powT (vC (.a (.int 10))) (vC (.a (.int 8)))))))))))
def ws__law_days : List Nat := ([1] ++ (([] ++ []) ++ (([] ++ []) ++ (([] ++ []) ++ []))))
def run__law_days : List T → Cr := fun ts => fin 1 ws__law_days (sem__law_days (ini 2 ts))
theorem sc__law_days : FnScope ["_law_cell", "_law_way"] ["_law_cell"] (defScope (top 19)) := ⟨rfl, rfl, rfl, by decide +kernel, rfl, by decide +kernel, by decide +kernel⟩
theorem ok__law_days (T : Tx K mg) (F : FunD K "_law_days" "_law_days" (defArgs (top 19)) (defBody (top 19)) (defScope (top 19)) [] [] f fd) : FnOk P w K mg base (L2N.CX P w) 1 f fd ["_law_cell"] (spS ⟨K, []⟩ 1 run__law_days) :=
  fn_S (k := 0) (s := sem__law_days) (ws := ws__law_days) F sc__law_days rfl rfl (by decide) (fun cdv A outer s0 H E W B =>
  (SEs.cons (SE.asg B.c.nd (DE.ofV (VE.bin op_mod o2_mod (VE.bin op_mulA o2_mul (VE.bin op_mod o2_mod (VE.var 0) VE.int) VE.int) VE.int)))
  (SEs.cons (SE.ite (VT.cmp (op_eqA B.c.hu) o2_eq (VE.bin op_mod o2_mod (VE.var 1) VE.int) VE.int rfl) (SEs.one (SE.ret (DE.ofV (VE.bin op_mod o2_mod (VE.bin op_fdivA o2_fdiv (VE.var 1) VE.int) VE.int)))) SEs.nil)
  (SEs.cons (SE.ite (VT.cmp (op_eqA B.c.hu) o2_eq (VE.bin op_mod o2_mod (VE.var 1) VE.int) VE.int rfl) (SEs.one (SE.ret (DE.ofV (VE.bin op_mod o2_mod (VE.var 0) VE.int)))) SEs.nil)
  (SEs.cons (SE.ite (VT.cmp (op_eqA B.c.hu) o2_eq (VE.bin op_mod o2_mod (VE.var 1) VE.int) VE.int rfl) (SEs.one (SE.ret (DE.ofV (VE.bin op_addT o2_add VE.int (VE.bin op_mod o2_mod (VE.bin op_fdivA o2_fdiv (VE.var 1) VE.int) VE.int))))) SEs.nil)
  (SEs.one (SE.ret (DE.ofV (VE.bin op_mod o2_mod (VE.var 0) (VE.bin op_pow o2_pow VE.int VE.int))))))))))
def sem__law_plain : En → So := (sSeq (sAsg 2 (liftV (v2 modT (v2 mulT (v2 modT (vVar 1) (vC (.a (.int 1000000007)))) (vC (.a (.int 16807)))) (vC (.a (.int 65521)))))) (sSeq (sAsg 3 (liftV (v2 modT (vVar 2) (vC (.a (.int 26)))))) (sSeq (sAsg 4 (liftV (v2 modT (v2 fdivT (vVar 2) (vC (.a (.int 26)))) (vC (.a (.int 62)))))) (sRet (liftV (v2 addT (v2 addT (v2 addT (v2 addT (v1 strT (vCall run__law_days (aCons (vVar 0) aNil))) (vC (.a (.str ".")))) (vSl (v1 strT (v2 addT (vC (.a (.int 100))) (vVar 3))) (oS (vC (.a (.int 1)))) oN)) (vC (.a (.str ":")))) (vSl (v1 strT (v2 addT (vC (.a (.int 100))) (vVar 4))) (oS (vC (.a (.int 1)))) oN)))))))
def ws__law_plain : List Nat := ([2] ++ ([3] ++ ([4] ++ [])))
def run__law_plain : List T → Cr := fun ts => fin 2 ws__law_plain (sem__law_plain (ini 5 ts))
theorem sc__law_plain : FnScope ["_law_cell", "_law_more", "_law_part", "_law_hours", "_law_left"] ["_law_cell", "_law_more"] (defScope (top 20)) := ⟨rfl, rfl, rfl, by decide +kernel, rfl, by decide +kernel, by decide +kernel⟩
theorem ok__law_plain (T : Tx K mg) (G__law_days : Fok P w K mg base "_law_days" 1 1 run__law_days) (F : FunD K "_law_plain" "_law_plain" (defArgs (top 20)) (defBody (top 20)) (defScope (top 20)) [] [] f fd) : FnOk P w K mg base (L2N.CX P w) 2 f fd ["_law_cell", "_law_more"] (spS ⟨K, []⟩ 2 run__law_plain) :=
  fn_S (k := 1) (s := sem__law_plain) (ws := ws__law_plain) F sc__law_plain rfl rfl (by decide) (fun cdv A outer s0 H E W B =>
  (SEs.cons (SE.asg B.c.nd (DE.ofV (VE.bin op_mod o2_mod (VE.bin op_mulA o2_mul (VE.bin op_mod o2_mod (VE.var 1) VE.int) VE.int) VE.int)))
  (SEs.cons (SE.asg B.c.nd (DE.ofV (VE.bin op_mod o2_mod (VE.var 2) VE.int)))
  (SEs.cons (SE.asg B.c.nd (DE.ofV (VE.bin op_mod o2_mod (VE.bin op_fdivA o2_fdiv (VE.var 2) VE.int) VE.int)))
  (SEs.one (SE.ret (DE.ofV (VE.bin op_addT o2_add (VE.bin op_addT o2_add (VE.bin op_addT o2_add (VE.bin op_addT o2_add (VE.callT1 call_strA boot_str' o1_str T.fr_str (VE.callF G__law_days B.c B.p0 (AE.cons (VE.var 0) AE.nil))) VE.str) (VE.slice (VE.callT1 call_strA boot_str' o1_str T.fr_str (VE.bin op_addT o2_add VE.int (VE.var 3))) (OE.some VE.int) OE.none)) VE.str) (VE.slice (VE.callT1 call_strA boot_str' o1_str T.fr_str (VE.bin op_addT o2_add VE.int (VE.var 4))) (OE.some VE.int) OE.none)))))))))
def sem__law_text : En → So := (sSeq (sAsg 2 (liftV (vC (.a (.str "0123456789.: -+_aA"))))) (sSeq (sAsg 3 (liftV (vCall run__law_plain (aCons (vVar 0) (aCons (vVar 1) aNil))))) (sSeq (sAsg 4 (liftV (v2 modT (v2 mulT (v2 modT (vVar 1) (vC (.a (.int 1000000007)))) (vC (.a (.int 48271)))) (vC (.a (.int 65497)))))) (sSeq (sAsg 5 (liftV (v2 modT (v2 modT (v2 mulT (v2 modT (vVar 0) (vC (.a (.int 1000000007)))) (vC (.a (.int 69621)))) (vC (.a (.int 65479)))) (v1 lenT (vVar 3))))) (sSeq (sAsg 6 (liftV (v2 idxT (vVar 2) (v2 modT (v2 modT (v2 mulT (v2 modT (v2 addT (vVar 0) (vVar 1)) (vC (.a (.int 1000000007)))) (vC (.a (.int 16807)))) (vC (.a (.int 65449)))) (v1 lenT (vVar 2)))))) (sSeq (sIf (vB (v2 eqT (v2 modT (vVar 4) (vC (.a (.int 12)))) (vC (.a (.int 0))))) (sFz 6 (sRet (liftV (v2 addT (v2 addT (vSl (vVar 3) oN (oS (vVar 5))) (vVar 6)) (vSl (vVar 3) (oS (v2 addT (vVar 5) (vC (.a (.int 1))))) oN))))) sNx) (sSeq (sIf (vB (v2 eqT (v2 modT (vVar 4) (vC (.a (.int 12)))) (vC (.a (.int 1))))) (sFz 6 (sRet (liftV (v2 addT (v2 addT (vSl (vVar 3) oN (oS (vVar 5))) (vVar 6)) (vSl (vVar 3) (oS (vVar 5)) oN))))) sNx) (sSeq (sIf (vB (v2 eqT (v2 modT (vVar 4) (vC (.a (.int 12)))) (vC (.a (.int 2))))) (sRet (liftV (v2 addT (vSl (vVar 3) oN (oS (vVar 5))) (vSl (vVar 3) (oS (v2 addT (vVar 5) (vC (.a (.int 1))))) oN)))) sNx) (sSeq (sIf (vB (v2 eqT (v2 modT (vVar 4) (vC (.a (.int 12)))) (vC (.a (.int 3))))) (sFz 3 (sRet (liftV (v2 addT (v2 mulsT (vC (.a (.str "0"))) (v2 addT (v2 mulT (v2 modT (v2 fdivT (vVar 4) (vC (.a (.int 12)))) (vC (.a (.int 4)))) (vC (.a (.int 100)))) (vC (.a (.int 1))))) (vVar 3))))) sNx) (sSeq (sIf (vB (v2 eqT (v2 modT (vVar 4) (vC (.a (.int 12)))) (vC (.a (.int 4))))) (sFz 3 (sRet (liftV (v2 addT (v2 mulsT (vC (.a (.str "9"))) (v2 addT (v2 mulT (v2 modT (v2 fdivT (vVar 4) (vC (.a (.int 12)))) (vC (.a (.int 4)))) (vC (.a (.int 100)))) (vC (.a (.int 1))))) (vVar 3))))) sNx) (sSeq (sIf (vB (v2 eqT (v2 modT (vVar 4) (vC (.a (.int 12)))) (vC (.a (.int 5))))) (sFz 3 (sRet (liftV (v2 addT (vVar 3) (v2 idxT (vLst (aCons (vC (.a (.str "0"))) (aCons (vC (.a (.str " "))) (aCons (vC (.a (.str "\n"))) (aCons (v2 mulsT (vC (.a (.str "0"))) (vC (.a (.int 300)))) aNil))))) (v2 modT (v2 fdivT (vVar 4) (vC (.a (.int 12)))) (vC (.a (.int 4))))))))) sNx) (sSeq (sIf (vB (v2 eqT (v2 modT (vVar 4) (vC (.a (.int 12)))) (vC (.a (.int 6))))) (sRet (liftV (v1 (replT "." ":") (vVar 3)))) sNx) (sSeq (sIf (vB (v2 eqT (v2 modT (vVar 4) (vC (.a (.int 12)))) (vC (.a (.int 7))))) (sRet (liftV (v2 addT (v2 addT (v2 addT (v2 addT (v1 strT (vCall run__law_days (aCons (vVar 0) aNil))) (vC (.a (.str ".")))) (v1 strT (v2 modT (v2 fdivT (vVar 4) (vC (.a (.int 12)))) (vC (.a (.int 24)))))) (vC (.a (.str ":")))) (v1 strT (v2 modT (v2 fdivT (vVar 4) (vC (.a (.int 288)))) (vC (.a (.int 60)))))))) sNx) (sRet (dMv 3)))))))))))))))
def ws__law_text : List Nat := ([2] ++ ([3] ++ ([4] ++ ([5] ++ ([6] ++ (([] ++ []) ++ (([] ++ []) ++ (([] ++ []) ++ (([] ++ []) ++ (([] ++ []) ++ (([] ++ []) ++ (([] ++ []) ++ (([] ++ []) ++ [])))))))))))))
def run__law_text : List T → Cr := fun ts => fin 2 ws__law_text (sem__law_text (ini 7 ts))
theorem sc__law_text : FnScope ["_law_cell", "_law_more", "_law_some", "_law_plain_here", "_law_way", "_law_at", "_law_sign"] ["_law_cell", "_law_more"] (defScope (top 21)) := ⟨rfl, rfl, rfl, by decide +kernel, rfl, by decide +kernel, by decide +kernel⟩
theorem ok__law_text (T : Tx K mg) (G__law_plain : Fok P w K mg base "_law_plain" 2 2 run__law_plain) (G__law_days : Fok P w K mg base "_law_days" 1 1 run__law_days) (F : FunD K "_law_text" "_law_text" (defArgs (top 21)) (defBody (top 21)) (defScope (top 21)) [] [] f fd) : FnOk P w K mg base (L2N.CX P w) 3 f fd ["_law_cell", "_law_more"] (spS ⟨K, []⟩ 2 run__law_text) :=
  fn_S (k := 2) (s := sem__law_text) (ws := ws__law_text) F sc__law_text rfl rfl (by decide) (fun cdv A outer s0 H E W B =>
  (SEs.str B.c.nd
  (SETs.cons (SET.of (SE.asg B.c.nd (DE.ofV (VE.callF G__law_plain B.c B.p0 (AE.cons (VE.var 0) (AE.cons (VE.var 1) AE.nil))))))
  (SETs.cons (SET.of (SE.asg B.c.nd (DE.ofV (VE.bin op_mod o2_mod (VE.bin op_mulA o2_mul (VE.bin op_mod o2_mod (VE.var 1) VE.int) VE.int) VE.int))))
  (SETs.cons (SET.of (SE.asg B.c.nd (DE.ofV (VE.bin op_mod o2_mod (VE.bin op_mod o2_mod (VE.bin op_mulA o2_mul (VE.bin op_mod o2_mod (VE.var 0) VE.int) VE.int) VE.int) (VE.len T.fr_len (VE.var 3))))))
  (SETs.cons (SET.of (SE.asg B.c.nd (DE.ofV (VE.idx B.c.hu (VE.var 2) (VE.bin op_mod o2_mod (VE.bin op_mod o2_mod (VE.bin op_mulA o2_mul (VE.bin op_mod o2_mod (VE.bin op_addT o2_add (VE.var 0) (VE.var 1)) VE.int) VE.int) VE.int) (VE.len T.fr_len (VE.var 2)))))))
  (SETs.cons (SET.of (SE.ite (VT.cmp (op_eqA B.c.hu) o2_eq (VE.bin op_mod o2_mod (VE.var 4) VE.int) VE.int rfl) (SEs.one (SE.fzn 6 (SE.ret (DE.ofV (VE.bin op_addT o2_add (VE.bin op_addT o2_add (VE.slice (VE.var 3) OE.none (OE.some (VE.var 5))) (VE.var 6)) (VE.slice (VE.var 3) (OE.some (VE.bin op_addT o2_add (VE.var 5) VE.int)) OE.none)))))) SEs.nil))
  (SETs.cons (SET.of (SE.ite (VT.cmp (op_eqA B.c.hu) o2_eq (VE.bin op_mod o2_mod (VE.var 4) VE.int) VE.int rfl) (SEs.one (SE.fzn 6 (SE.ret (DE.ofV (VE.bin op_addT o2_add (VE.bin op_addT o2_add (VE.slice (VE.var 3) OE.none (OE.some (VE.var 5))) (VE.var 6)) (VE.slice (VE.var 3) (OE.some (VE.var 5)) OE.none)))))) SEs.nil))
  (SETs.cons (SET.of (SE.ite (VT.cmp (op_eqA B.c.hu) o2_eq (VE.bin op_mod o2_mod (VE.var 4) VE.int) VE.int rfl) (SEs.one (SE.ret (DE.ofV (VE.bin op_addT o2_add (VE.slice (VE.var 3) OE.none (OE.some (VE.var 5))) (VE.slice (VE.var 3) (OE.some (VE.bin op_addT o2_add (VE.var 5) VE.int)) OE.none))))) SEs.nil))
  (SETs.cons (SET.of (SE.ite (VT.cmp (op_eqA B.c.hu) o2_eq (VE.bin op_mod o2_mod (VE.var 4) VE.int) VE.int rfl) (SEs.one (SE.fzn 3 (SE.ret (DE.ofV (VE.bin op_addT o2_add (VE.bin op_mulS o2_mulS VE.str (VE.bin op_addT o2_add (VE.bin op_mulA o2_mul (VE.bin op_mod o2_mod (VE.bin op_fdivA o2_fdiv (VE.var 4) VE.int) VE.int) VE.int) VE.int)) (VE.var 3)))))) SEs.nil))
  (SETs.cons (SET.of (SE.ite (VT.cmp (op_eqA B.c.hu) o2_eq (VE.bin op_mod o2_mod (VE.var 4) VE.int) VE.int rfl) (SEs.one (SE.fzn 3 (SE.ret (DE.ofV (VE.bin op_addT o2_add (VE.bin op_mulS o2_mulS VE.str (VE.bin op_addT o2_add (VE.bin op_mulA o2_mul (VE.bin op_mod o2_mod (VE.bin op_fdivA o2_fdiv (VE.var 4) VE.int) VE.int) VE.int) VE.int)) (VE.var 3)))))) SEs.nil))
  (SETs.cons (SET.of (SE.ite (VT.cmp (op_eqA B.c.hu) o2_eq (VE.bin op_mod o2_mod (VE.var 4) VE.int) VE.int rfl) (SEs.one (SE.fzn 3 (SE.ret (DE.ofV (VE.bin op_addT o2_add (VE.var 3) (VE.idx B.c.hu (VE.lst (AE.cons VE.str (AE.cons VE.str (AE.cons VE.str (AE.cons (VE.bin op_mulS o2_mulS VE.str VE.int) AE.nil))))) (VE.bin op_mod o2_mod (VE.bin op_fdivA o2_fdiv (VE.var 4) VE.int) VE.int))))))) SEs.nil))
  (SETs.cons (SET.ite (VT.cmp (op_eqA B.c.hu) o2_eq (VE.bin op_mod o2_mod (VE.var 4) VE.int) VE.int rfl) (SETs.one (SET.ret (VET.repl (VE.var 3)))) (SETs.of SEs.nil))
  (SETs.of (SEs.cons (SE.ite (VT.cmp (op_eqA B.c.hu) o2_eq (VE.bin op_mod o2_mod (VE.var 4) VE.int) VE.int rfl) (SEs.one (SE.ret (DE.ofV (VE.bin op_addT o2_add (VE.bin op_addT o2_add (VE.bin op_addT o2_add (VE.bin op_addT o2_add (VE.callT1 call_strA boot_str' o1_str T.fr_str (VE.callF G__law_days B.c B.p0 (AE.cons (VE.var 0) AE.nil))) VE.str) (VE.callT1 call_strA boot_str' o1_str T.fr_str (VE.bin op_mod o2_mod (VE.bin op_fdivA o2_fdiv (VE.var 4) VE.int) VE.int))) VE.str) (VE.callT1 call_strA boot_str' o1_str T.fr_str (VE.bin op_mod o2_mod (VE.bin op_fdivA o2_fdiv (VE.var 4) VE.int) VE.int)))))) SEs.nil)
  (SEs.one (SE.ret (DE.mv 3))))))))))))))))))
def lb__law_due_0 : En → So := (sIf (vB (v2 notInT (vVar 4) (vC (.a (.str "0123456789"))))) (sRet (liftV (v1 negT (vC (.a (.int 1)))))) sNx)
def tl__law_due_0 : En → So := (sSeq (sIf (bOr (bAnd (vB (v2 gtT (v1 lenT (vVar 1)) (vC (.a (.int 1))))) (vB (v2 eqT (v2 idxT (vVar 1) (vC (.a (.int 0)))) (vC (.a (.str "0")))))) (bOr (vB (v2 gtT (v1 toIntT (vSl (vVar 3) oN (oS (vC (.a (.int 2)))))) (vC (.a (.int 23))))) (vB (v2 gtT (v1 toIntT (vSl (vVar 3) (oS (vC (.a (.int 3)))) oN)) (vC (.a (.int 59))))))) (sRet (liftV (v1 negT (vC (.a (.int 1)))))) sNx) (sSeq (sAsg 5 (liftV (v2 addT (v2 addT (v2 mulT (vC (.a (.int 1440))) (v1 toIntT (vVar 1))) (v2 mulT (vC (.a (.int 60))) (v1 toIntT (vSl (vVar 3) oN (oS (vC (.a (.int 2)))))))) (v1 toIntT (vSl (vVar 3) (oS (vC (.a (.int 3)))) oN))))) (sSeq (sIf (vB (v2 gtT (vVar 5) (v2 powT (vC (.a (.int 10))) (vC (.a (.int 9)))))) (sRet (liftV (v1 negT (vC (.a (.int 1)))))) sNx) (sRet (dMv 5)))))
def sem__law_due : En → So := (sSeq (sAsgG (gT (gsCons (gN 1) (gsCons (gN 2) (gsCons (gN 3) gsNil)))) (liftV (v2 partT (sOnly (vVar 0)) (vC (.a (.str ".")))))) (sSeq (sIf (bOr (vB (v2 eqT (vVar 2) (vC (.a (.str ""))))) (bOr (vB (v2 neT (v1 lenT (vVar 3)) (vC (.a (.int 5))))) (bOr (vB (v2 neT (v2 idxT (vVar 3) (vC (.a (.int 2)))) (vC (.a (.str ":"))))) (bOr (vB (v2 ltT (v1 lenT (vVar 1)) (vC (.a (.int 1))))) (vB (v2 gtT (v1 lenT (vVar 1)) (vC (.a (.int 6))))))))) (sRet (liftV (v1 negT (vC (.a (.int 1)))))) sNx) (sSeq (sFz 3 (sFz 1 (sFor (iSeqA (v2 addT (v2 addT (vVar 1) (vSl (vVar 3) oN (oS (vC (.a (.int 2)))))) (vSl (vVar 3) (oS (vC (.a (.int 3)))) oN))) (gN 4) lb__law_due_0))) tl__law_due_0)))
def ws__law_due : List Nat := (([1] ++ ([2] ++ ([3] ++ []))) ++ (([] ++ []) ++ (([4] ++ ([] ++ [])) ++ (([] ++ []) ++ ([5] ++ (([] ++ []) ++ []))))))
def run__law_due : List T → Cr := fun ts => fin 1 ws__law_due (sem__law_due (ini 6 ts))
theorem sc__law_due : FnScope ["_law_text_here", "_law_head", "_law_point", "_law_tail", "_law_sign", "_law_found"] ["_law_text_here"] (defScope (top 22)) := ⟨rfl, rfl, rfl, by decide +kernel, rfl, by decide +kernel, by decide +kernel⟩
theorem ok__law_due (T : Tx K mg) (F : FunD K "_law_due" "_law_due" (defArgs (top 22)) (defBody (top 22)) (defScope (top 22)) [] [] f fd) : FnOk P w K mg base (L2N.CX P w) 1 f fd ["_law_text_here"] (spS ⟨K, []⟩ 1 run__law_due) :=
  fn_S (k := 0) (s := sem__law_due) (ws := ws__law_due) F sc__law_due rfl rfl (by decide) (fun cdv A outer s0 H E W B =>
  (SEs.cons (SE.asgG (DE.ofV (VE.m1 PySem.F.slot_str_partition PySem.F.type_str_partition mt_partition o2_part (VE.var 0) VE.str)) (GE.tup B.c (GEs.cons (GE.name B.c) (GEs.cons (GE.name B.c) (GEs.cons (GE.name B.c) GEs.nil)))))
  (SEs.cons (SE.ite (WT.t (WT.or (VT.cmp (op_eqA B.c.hu) o2_eq (VE.var 2) VE.str rfl) (WT.or (VT.cmp (op_neA B.c.hu) o2_ne (VE.len T.fr_len (VE.var 3)) VE.int rfl) (WT.or (VT.cmp (op_neA B.c.hu) o2_ne (VE.idx B.c.hu (VE.var 3) VE.int) VE.str rfl) (WT.or (VT.cmp op_lt o2_lt (VE.len T.fr_len (VE.var 1)) VE.int rfl) (WT.or1 (VT.cmp op_gt o2_gt (VE.len T.fr_len (VE.var 1)) VE.int rfl))))))) (SEs.one (SE.ret (DE.ofV (VE.neg VE.int)))) SEs.nil)
  (SEs.cons (SE.fzn 3 (SE.fzn 1 (SE.for_ B.c B.po (IE.seqA (VE.bin op_addT o2_add (VE.bin op_addT o2_add (VE.var 1) (VE.slice (VE.var 3) OE.none (OE.some VE.int))) (VE.slice (VE.var 3) (OE.some VE.int) OE.none))) (GE.name B.c)
  (SEs.one (SE.ite (VT.cmp (op_notInA B.c.hu) o2_notIn (VE.var 4) VE.str rfl) (SEs.one (SE.ret (DE.ofV (VE.neg VE.int)))) SEs.nil)))))
  (SEs.cons (SE.ite (WT.t (WT.or (WT.t (WT.and (VT.cmp op_gt o2_gt (VE.len T.fr_len (VE.var 1)) VE.int rfl) (WT.and1 (VT.cmp (op_eqA B.c.hu) o2_eq (VE.idx B.c.hu (VE.var 1) VE.int) VE.str rfl)))) (WT.or (VT.cmp op_gt o2_gt (VE.callT1 call_intA boot_int' o1_int T.fr_int (VE.slice (VE.var 3) OE.none (OE.some VE.int))) VE.int rfl) (WT.or1 (VT.cmp op_gt o2_gt (VE.callT1 call_intA boot_int' o1_int T.fr_int (VE.slice (VE.var 3) (OE.some VE.int) OE.none)) VE.int rfl))))) (SEs.one (SE.ret (DE.ofV (VE.neg VE.int)))) SEs.nil)
  (SEs.cons (SE.asg B.c.nd (DE.ofV (VE.bin op_addT o2_add (VE.bin op_addT o2_add (VE.bin op_mulA o2_mul VE.int (VE.callT1 call_intA boot_int' o1_int T.fr_int (VE.var 1))) (VE.bin op_mulA o2_mul VE.int (VE.callT1 call_intA boot_int' o1_int T.fr_int (VE.slice (VE.var 3) OE.none (OE.some VE.int))))) (VE.callT1 call_intA boot_int' o1_int T.fr_int (VE.slice (VE.var 3) (OE.some VE.int) OE.none)))))
  (SEs.cons (SE.ite (VT.cmp op_gt o2_gt (VE.var 5) (VE.bin op_pow o2_pow VE.int VE.int) rfl) (SEs.one (SE.ret (DE.ofV (VE.neg VE.int)))) SEs.nil)
  (SEs.one (SE.ret (DE.mv 5))))))))))
def lb_only_figures_0 : En → So := (sIf (vB (v2 notInT (vVar 1) (vC (.a (.str "0123456789"))))) (sRet (liftV (vC (.a (.bl false))))) sNx)
def tl_only_figures_0 : En → So := (sRet (liftV (vC (.a (.bl true)))))
def sem_only_figures : En → So := (sSeq (sFz 0 (sFor (iSeqA (vVar 0)) (gN 1) lb_only_figures_0)) tl_only_figures_0)
def ws_only_figures : List Nat := (([1] ++ ([] ++ [])) ++ [])
def run_only_figures : List T → Cr := fun ts => fin 1 ws_only_figures (sem_only_figures (ini 2 ts))
theorem sc_only_figures : FnScope ["signs", "sign"] ["signs"] (defScope (top 15)) := ⟨rfl, rfl, rfl, by decide +kernel, rfl, by decide +kernel, by decide +kernel⟩
theorem ok_only_figures (T : Tx K mg) (F : FunD K "only_figures" "only_figures" (defArgs (top 15)) (defBody (top 15)) (defScope (top 15)) [] [] f fd) : FnOk P w K mg base (L2N.CX P w) 1 f fd ["signs"] (spS ⟨K, []⟩ 1 run_only_figures) :=
  fn_S (k := 0) (s := sem_only_figures) (ws := ws_only_figures) F sc_only_figures rfl rfl (by decide) (fun cdv A outer s0 H E W B =>
  (SEs.cons (SE.fzn 0 (SE.for_ B.c B.po (IE.seqA (VE.var 0)) (GE.name B.c)
  (SEs.one (SE.ite (VT.cmp (op_notInA B.c.hu) o2_notIn (VE.var 1) (VE.gstr T.gs_FIGURES) rfl) (SEs.one (SE.ret (DE.ofV VE.bl))) SEs.nil))))
  (SEs.one (SE.ret (DE.ofV VE.bl)))))
def sem_read : En → So := (sSeq (sIf (bOr (vB (v2 ltT (v1 lenT (vVar 0)) (vC (.a (.int 7))))) (vB (v2 gtT (v1 lenT (vVar 0)) (vC (.a (.int 12)))))) (sRaise "BadTime" [("text", 0)] (aCons (vVar 0) aNil)) sNx) (sSeq (sAsg 1 (liftV (vSl (vVar 0) oN (oS (v1 negT (vC (.a (.int 6)))))))) (sSeq (sAsg 2 (liftV (vSl (vVar 0) (oS (v1 negT (vC (.a (.int 5))))) (oS (v1 negT (vC (.a (.int 3)))))))) (sSeq (sAsg 3 (liftV (vSl (vVar 0) (oS (v1 negT (vC (.a (.int 2))))) oN))) (sSeq (sFz 2 (sFz 1 (sFz 3 (sIf (bOr (vB (v2 neT (v2 idxT (vVar 0) (v1 negT (vC (.a (.int 6))))) (vC (.a (.str "."))))) (bOr (vB (v2 neT (v2 idxT (vVar 0) (v1 negT (vC (.a (.int 3))))) (vC (.a (.str ":"))))) (bNot (vB (vCall run_only_figures (aCons (v2 addT (v2 addT (vVar 1) (vVar 2)) (vVar 3)) aNil)))))) (sRaise "BadTime" [("text", 0)] (aCons (vVar 0) aNil)) sNx)))) (sSeq (sIf (bOr (bAnd (vB (v2 eqT (v2 idxT (vVar 1) (vC (.a (.int 0)))) (vC (.a (.str "0"))))) (vB (v2 gtT (v1 lenT (vVar 1)) (vC (.a (.int 1)))))) (bOr (vB (v2 gtT (v1 toIntT (vVar 2)) (vC (.a (.int 23))))) (vB (v2 gtT (v1 toIntT (vVar 3)) (vC (.a (.int 59))))))) (sRaise "BadTime" [("text", 0)] (aCons (vVar 0) aNil)) sNx) (sSeq (sAsg 4 (liftV (v2 addT (v2 addT (v2 mulT (v1 toIntT (vVar 1)) (vC (.a (.int 1440)))) (v2 mulT (v1 toIntT (vVar 2)) (vC (.a (.int 60))))) (v1 toIntT (vVar 3))))) (sSeq (sIf (vB (v2 gtT (vVar 4) (vC (.a (.int 1000000000))))) (sRaise "BadTime" [("text", 0)] (aCons (vVar 0) aNil)) sNx) (sRet (dMv 4))))))))))
def ws_read : List Nat := (([] ++ []) ++ ([1] ++ ([2] ++ ([3] ++ (([] ++ []) ++ (([] ++ []) ++ ([4] ++ (([] ++ []) ++ []))))))))
def run_read : List T → Cr := fun ts => fin 1 ws_read (sem_read (ini 5 ts))
theorem sc_read : FnScope ["text", "days", "hours", "minutes", "minute"] ["text"] (defScope (top 16)) := ⟨rfl, rfl, rfl, by decide +kernel, rfl, by decide +kernel, by decide +kernel⟩
theorem ok_read (T : Tx K mg) (G_only_figures : Fok P w K mg base "only_figures" 1 1 run_only_figures) (X_BadTime : Xok P w K mg base "BadTime" 1 [("text", 0)]) (F : FunD K "read" "read" (defArgs (top 16)) (defBody (top 16)) (defScope (top 16)) [] [] f fd) : FnOk P w K mg base (L2N.CX P w) 3 f fd ["text"] (spS ⟨K, []⟩ 1 run_read) :=
  fn_S (k := 2) (s := sem_read) (ws := ws_read) F sc_read rfl rfl (by decide) (fun cdv A outer s0 H E W B =>
  (SEs.cons (SE.ite (WT.t (WT.or (VT.cmp op_lt o2_lt (VE.len T.fr_len (VE.var 0)) VE.int rfl) (WT.or1 (VT.cmp op_gt o2_gt (VE.len T.fr_len (VE.var 0)) VE.int rfl)))) (SEs.one (SE.raiseX X_BadTime B rfl (AE.cons (VE.var 0) AE.nil))) SEs.nil)
  (SEs.cons (SE.asg B.c.nd (DE.ofV (VE.slice (VE.var 0) OE.none (OE.some (VE.neg VE.int)))))
  (SEs.cons (SE.asg B.c.nd (DE.ofV (VE.slice (VE.var 0) (OE.some (VE.neg VE.int)) (OE.some (VE.neg VE.int)))))
  (SEs.cons (SE.asg B.c.nd (DE.ofV (VE.slice (VE.var 0) (OE.some (VE.neg VE.int)) OE.none)))
  (SEs.cons (SE.fzn 2 (SE.fzn 1 (SE.fzn 3 (SE.ite (WT.t (WT.or (VT.cmp (op_neA B.c.hu) o2_ne (VE.idx B.c.hu (VE.var 0) (VE.neg VE.int)) VE.str rfl) (WT.or (VT.cmp (op_neA B.c.hu) o2_ne (VE.idx B.c.hu (VE.var 0) (VE.neg VE.int)) VE.str rfl) (WT.or1 (VT.not (VT.val (VE.callF G_only_figures B.c B.p0 (AE.cons (VE.bin op_addT o2_add (VE.bin op_addT o2_add (VE.var 1) (VE.var 2)) (VE.var 3)) AE.nil)))))))) (SEs.one (SE.raiseX X_BadTime B rfl (AE.cons (VE.var 0) AE.nil))) SEs.nil))))
  (SEs.cons (SE.ite (WT.t (WT.or (WT.t (WT.and (VT.cmp (op_eqA B.c.hu) o2_eq (VE.idx B.c.hu (VE.var 1) VE.int) VE.str rfl) (WT.and1 (VT.cmp op_gt o2_gt (VE.len T.fr_len (VE.var 1)) VE.int rfl)))) (WT.or (VT.cmp op_gt o2_gt (VE.callT1 call_intA boot_int' o1_int T.fr_int (VE.var 2)) VE.int rfl) (WT.or1 (VT.cmp op_gt o2_gt (VE.callT1 call_intA boot_int' o1_int T.fr_int (VE.var 3)) VE.int rfl))))) (SEs.one (SE.raiseX X_BadTime B rfl (AE.cons (VE.var 0) AE.nil))) SEs.nil)
  (SEs.cons (SE.asg B.c.nd (DE.ofV (VE.bin op_addT o2_add (VE.bin op_addT o2_add (VE.bin op_mulA o2_mul (VE.callT1 call_intA boot_int' o1_int T.fr_int (VE.var 1)) (VE.gint T.gi_DAY)) (VE.bin op_mulA o2_mul (VE.callT1 call_intA boot_int' o1_int T.fr_int (VE.var 2)) (VE.gint T.gi_HOUR))) (VE.callT1 call_intA boot_int' o1_int T.fr_int (VE.var 3)))))
  (SEs.cons (SE.ite (VT.cmp op_gt o2_gt (VE.var 4) (VE.gint T.gi_LIMIT) rfl) (SEs.one (SE.raiseX X_BadTime B rfl (AE.cons (VE.var 0) AE.nil))) SEs.nil)
  (SEs.one (SE.ret (DE.mv 4))))))))))))
def sem__law_asked : En → So := (sSeq (sAsg 1 (liftV (vC (.a .non)))) (sSeq (sTryAs 2 (fun c => ct0.lookup c) (sAsg 1 (liftV (vCall run_read (aCons (vVar 0) aNil)))) (sSeq (sAsg 3 (liftV (vAnd (vB (v1 (isB tb_BadTime) (vVar 2))) (v1 (isB tb_ValueError) (vVar 2))))) (sSeq (sIf (bOr (bNot (vB (vVar 3))) (vB (v1 (isB tb_of_BadName_7) (vVar 2)))) (sRet (liftV (vTup (aCons (vC (.a (.str "refused otherwise"))) (aCons (vC (.a (.str ""))) aNil))))) sNx) (sRet (liftV (vTup (aCons (vC (.a (.str "refused"))) (aCons (v1 (xfT ["BadTime"] "text") (vVar 2)) aNil)))))))) (sFz 1 (sRet (liftV (vTup (aCons (vC (.a (.str "told"))) (aCons (vVar 1) aNil))))))))
def ws__law_asked : List Nat := ([1] ++ (([1] ++ 2 :: ([3] ++ (([] ++ []) ++ []))) ++ []))
def run__law_asked : List T → Cr := fun ts => fin 1 ws__law_asked (sem__law_asked (ini 4 ts))
theorem sc__law_asked : FnScope ["_law_text_here", "_law_found", "e", "_law_plain_here"] ["_law_text_here"] (defScope (top 23)) := ⟨rfl, rfl, rfl, by decide +kernel, rfl, by decide +kernel, by decide +kernel⟩
theorem ok__law_asked (T : Tx K mg) (G_read : Fok P w K mg base "read" 3 1 run_read) (F : FunD K "_law_asked" "_law_asked" (defArgs (top 23)) (defBody (top 23)) (defScope (top 23)) [] [] f fd) : FnOk P w K mg base (L2N.CX P w) 4 f fd ["_law_text_here"] (spS ⟨K, []⟩ 1 run__law_asked) :=
  fn_S (k := 3) (s := sem__law_asked) (ws := ws__law_asked) F sc__law_asked rfl rfl (by decide) (fun cdv A outer s0 H E W B =>
  (SEs.cons (SE.asg B.c.nd (DE.ofV VE.non))
  (SEs.cons (SE.tryAs B T.ca0 T.gc_FleetError (fun W' pn xe B' => (SEs.one (SE.asg B'.c.nd (DE.ofV (VE.callF G_read B'.c B'.p0 (AE.cons (VE.var 0) AE.nil)))))) (fun a oe pn Ch => (SEs.cons (SE.asg Ch.nd (DE.ofV (VE.and (VE.is1 Ch.pn T.isBadTime T.fr_isinstance (VE.var 2) (pc_own T.gc_BadTime)) (VE.one (VE.is1 Ch.pn T.isValueError T.fr_isinstance (VE.var 2) (pc_ty T.fr_ValueError (by decide +kernel)))))))
  (SEs.cons (SE.ite (WT.t (WT.or (VT.not (VT.val (VE.var 3))) (WT.or1 (VT.val (VE.isN Ch.pn T.isof_BadName_7 T.fr_isinstance (VE.var 2) (pc_cons (pc_own T.gc_BadName) (pc_cons (pc_own T.gc_BadNumber) (pc_cons (pc_own T.gc_TooMany) (pc_cons (pc_own T.gc_Twice) (pc_cons (pc_own T.gc_NoPlace) (pc_cons (pc_own T.gc_NoTrip) (pc_cons (pc_own T.gc_NoWay) pc_nil)))))))))))) (SEs.one (SE.ret (DE.ofV (VE.tup (AE.cons VE.str (AE.cons VE.str AE.nil)))))) SEs.nil)
  (SEs.one (SE.ret (DE.ofV (VE.tup (AE.cons VE.str (AE.cons (VE.xf Ch.pn T.xf0 (VE.var 2)) AE.nil))))))))))
  (SEs.one (SE.fzn 1 (SE.ret (DE.ofV (VE.tup (AE.cons VE.str (AE.cons (VE.var 1) AE.nil))))))))))
def sem__law_whole : En → So := (sRet (liftV (vAnd (vB (v1 (isB tb_int) (vVar 0))) (bV (bNot (vB (v1 (isB tb_bool) (vVar 0))))))))
def ws__law_whole : List Nat := []
def run__law_whole : List T → Cr := fun ts => fin 1 ws__law_whole (sem__law_whole (ini 1 ts))
theorem sc__law_whole : FnScope ["_law_found"] ["_law_found"] (defScope (top 18)) := ⟨rfl, rfl, rfl, by decide +kernel, rfl, by decide +kernel, by decide +kernel⟩
theorem ok__law_whole (T : Tx K mg) (F : FunD K "_law_whole" "_law_whole" (defArgs (top 18)) (defBody (top 18)) (defScope (top 18)) [] [] f fd) : FnOk P w K mg base (L2N.CX P w) 1 f fd ["_law_found"] (spS ⟨K, []⟩ 1 run__law_whole) :=
  fn_S (k := 0) (s := sem__law_whole) (ws := ws__law_whole) F sc__law_whole rfl rfl (by decide) (fun cdv A outer s0 H E W B =>
  (SEs.one (SE.ret (DE.ofV (VE.and (VE.is1 B.c.pn T.isint T.fr_isinstance (VE.var 0) (pc_ty T.fr_int (by decide +kernel))) (VE.one (VE.not (VE.is1 B.c.pn T.isbool T.fr_isinstance (VE.var 0) (pc_ty T.fr_bool (by decide +kernel))))))))))
def sem__law_right : En → So := (sSeq (sAsg 1 (liftV (vCall run__law_due (aCons (vVar 0) aNil)))) (sSeq (sAsg 2 (liftV (vCall run__law_asked (aCons (vVar 0) aNil)))) (sSeq (sIf (vB (v2 ltT (vVar 1) (vC (.a (.int 0))))) (sRet (liftV (vAnd (vB (v2 eqT (v2 idxT (vVar 2) (vC (.a (.int 0)))) (vC (.a (.str "refused"))))) (vAnd (vB (v1 (isB tb_str) (v2 idxT (vVar 2) (vC (.a (.int 1)))))) (v2 eqT (v2 idxT (vVar 2) (vC (.a (.int 1)))) (vVar 0)))))) sNx) (sRet (liftV (vAnd (vB (v2 eqT (v2 idxT (vVar 2) (vC (.a (.int 0)))) (vC (.a (.str "told"))))) (vAnd (vB (vCall run__law_whole (aCons (v2 idxT (vVar 2) (vC (.a (.int 1)))) aNil))) (v2 eqT (v2 idxT (vVar 2) (vC (.a (.int 1)))) (vVar 1)))))))))
def ws__law_right : List Nat := ([1] ++ ([2] ++ (([] ++ []) ++ [])))
def run__law_right : List T → Cr := fun ts => fin 1 ws__law_right (sem__law_right (ini 3 ts))
theorem sc__law_right : FnScope ["_law_text_here", "_law_due_here", "_law_found"] ["_law_text_here"] (defScope (top 24)) := ⟨rfl, rfl, rfl, by decide +kernel, rfl, by decide +kernel, by decide +kernel⟩
theorem ok__law_right (T : Tx K mg) (G__law_due : Fok P w K mg base "_law_due" 1 1 run__law_due) (G__law_asked : Fok P w K mg base "_law_asked" 4 1 run__law_asked) (G__law_whole : Fok P w K mg base "_law_whole" 1 1 run__law_whole) (F : FunD K "_law_right" "_law_right" (defArgs (top 24)) (defBody (top 24)) (defScope (top 24)) [] [] f fd) : FnOk P w K mg base (L2N.CX P w) 5 f fd ["_law_text_here"] (spS ⟨K, []⟩ 1 run__law_right) :=
  fn_S (k := 4) (s := sem__law_right) (ws := ws__law_right) F sc__law_right rfl rfl (by decide) (fun cdv A outer s0 H E W B =>
  (SEs.cons (SE.asg B.c.nd (DE.ofV (VE.callF G__law_due B.c B.p0 (AE.cons (VE.var 0) AE.nil))))
  (SEs.cons (SE.asg B.c.nd (DE.ofV (VE.callF G__law_asked B.c B.p0 (AE.cons (VE.var 0) AE.nil))))
  (SEs.cons (SE.ite (VT.cmp op_lt o2_lt (VE.var 1) VE.int rfl) (SEs.one (SE.ret (DE.ofV (VE.and (VE.cmp (op_eqA B.c.hu) o2_eq (VE.idx B.c.hu (VE.var 2) VE.int) VE.str rfl) (VE.and (VE.is1 B.c.pn T.isstr T.fr_isinstance (VE.idx B.c.hu (VE.var 2) VE.int) (pc_ty T.fr_str (by decide +kernel))) (VE.one (VE.cmp (op_eqA B.c.hu) o2_eq (VE.idx B.c.hu (VE.var 2) VE.int) (VE.var 0) rfl))))))) SEs.nil)
  (SEs.one (SE.ret (DE.ofV (VE.and (VE.cmp (op_eqA B.c.hu) o2_eq (VE.idx B.c.hu (VE.var 2) VE.int) VE.str rfl) (VE.and (VE.callF G__law_whole B.c B.p0 (AE.cons (VE.idx B.c.hu (VE.var 2) VE.int) AE.nil)) (VE.one (VE.cmp (op_eqA B.c.hu) o2_eq (VE.idx B.c.hu (VE.var 2) VE.int) (VE.var 1) rfl)))))))))))
def lb_law_0 : En → So := (sApp 2 (vCall run__law_text (aCons (v2 idxT (vVar 1) (v2 mulT (vC (.a (.int 2))) (vVar 3))) (aCons (v2 idxT (vVar 1) (v2 addT (v2 mulT (vC (.a (.int 2))) (vVar 3)) (vC (.a (.int 1))))) aNil))))
def lb_law_1 : En → So := (sIf (bNot (vB (vCall run__law_right (aCons (vVar 4) aNil)))) (sRet (liftV (vC (.a (.bl false))))) sNx)
def tl_law_0 : En → So := (sRet (liftV (vC (.a (.bl true)))))
def tl_law_1 : En → So := (sSeq (sFz 2 (sFor (iSeqA (v2 addT (vVar 2) (vLst (aCons (v2 idxT (vVar 2) (vC (.a (.int 1)))) aNil)))) (gN 4) lb_law_1)) tl_law_0)
def sem_law : En → So := (sSeq (sAsg 1 (liftV (v2 addT (vSl (vVar 0) oN (oS (vC (.a (.int 60))))) (vLst (aCons (vC (.a (.int 0))) (aCons (vC (.a (.int 0))) aNil)))))) (sSeq (sAsg 2 (liftV (vLst (aCons (vC (.a (.str ""))) aNil)))) (sSeq (sFor (iRng (aCons (v2 fdivT (v1 lenT (vVar 1)) (vC (.a (.int 2)))) aNil)) (gN 3) lb_law_0) tl_law_1)))
def ws_law : List Nat := ([1] ++ ([2] ++ (([3] ++ []) ++ (([4] ++ ([] ++ [])) ++ []))))
def run_law : List T → Cr := fun ts => fin 1 ws_law (sem_law (ini 5 ts))
theorem sc_law : FnScope ["_law_script", "_law_cells", "_law_texts", "_law_k", "_law_text_here"] ["_law_script"] (defScope (top 25)) := ⟨rfl, rfl, rfl, by decide +kernel, rfl, by decide +kernel, by decide +kernel⟩
theorem ok_law (T : Tx K mg) (G__law_text : Fok P w K mg base "_law_text" 3 2 run__law_text) (G__law_right : Fok P w K mg base "_law_right" 5 1 run__law_right) (F : FunD K "law" "law" (defArgs (top 25)) (defBody (top 25)) (defScope (top 25)) [] [] f fd) : FnOk P w K mg base (L2N.CX P w) 6 f fd ["_law_script"] (spS ⟨K, []⟩ 1 run_law) :=
  fn_S (k := 5) (s := sem_law) (ws := ws_law) F sc_law rfl rfl (by decide) (fun cdv A outer s0 H E W B =>
  (SEs.cons (SE.asg B.c.nd (DE.ofV (VE.bin op_addT o2_add (VE.slice (VE.var 0) OE.none (OE.some VE.int)) (VE.lst (AE.cons VE.int (AE.cons VE.int AE.nil))))))
  (SEs.cons (SE.asg B.c.nd (DE.ofV (VE.lst (AE.cons VE.str AE.nil))))
  (SEs.cons (SE.for_ B.c B.po (IE.rng1 T.fr_range (AE.cons (VE.bin op_fdivA o2_fdiv (VE.len T.fr_len (VE.var 1)) VE.int) AE.nil)) (GE.name B.c)
  (SEs.one (SE.append (i := 2) (VE.callF G__law_text B.c B.p0 (AE.cons (VE.idx B.c.hu (VE.var 1) (VE.bin op_mulA o2_mul VE.int (VE.var 3))) (AE.cons (VE.idx B.c.hu (VE.var 1) (VE.bin op_addT o2_add (VE.bin op_mulA o2_mul VE.int (VE.var 3)) VE.int)) AE.nil))))))
  (SEs.cons (SE.fzn 2 (SE.for_ B.c B.po (IE.seqA (VE.bin op_addT o2_add (VE.var 2) (VE.lst (AE.cons (VE.idx B.c.hu (VE.var 2) VE.int) AE.nil)))) (GE.name B.c)
  (SEs.one (SE.ite (VT.not (VT.val (VE.callF G__law_right B.c B.p0 (AE.cons (VE.var 4) AE.nil)))) (SEs.one (SE.ret (DE.ofV VE.bl))) SEs.nil))))
  (SEs.one (SE.ret (DE.ofV VE.bl))))))))
def d__law_days : He.DefD := ⟨("_law_days", none), "_law_days", "_law_days", defArgs (top 19), defBody (top 19), defScope (top 19), [], []⟩
def d__law_plain : He.DefD := ⟨("_law_plain", none), "_law_plain", "_law_plain", defArgs (top 20), defBody (top 20), defScope (top 20), [], []⟩
def d__law_text : He.DefD := ⟨("_law_text", none), "_law_text", "_law_text", defArgs (top 21), defBody (top 21), defScope (top 21), [], []⟩
def d__law_due : He.DefD := ⟨("_law_due", none), "_law_due", "_law_due", defArgs (top 22), defBody (top 22), defScope (top 22), [], []⟩
def d_only_figures : He.DefD := ⟨("only_figures", none), "only_figures", "only_figures", defArgs (top 15), defBody (top 15), defScope (top 15), [], []⟩
def d_read : He.DefD := ⟨("read", none), "read", "read", defArgs (top 16), defBody (top 16), defScope (top 16), [], []⟩
def d__law_asked : He.DefD := ⟨("_law_asked", none), "_law_asked", "_law_asked", defArgs (top 23), defBody (top 23), defScope (top 23), [], []⟩
def d__law_whole : He.DefD := ⟨("_law_whole", none), "_law_whole", "_law_whole", defArgs (top 18), defBody (top 18), defScope (top 18), [], []⟩
def d__law_right : He.DefD := ⟨("_law_right", none), "_law_right", "_law_right", defArgs (top 24), defBody (top 24), defScope (top 24), [], []⟩
def d_law : He.DefD := ⟨("law", none), "law", "law", defArgs (top 25), defBody (top 25), defScope (top 25), [], []⟩
def d_BadTime : He.DefD := ⟨("BadTime", some "__init__"), "__init__", "BadTime.__init__", defArgs (cst 5 0), defBody (cst 5 0), defScope (cst 5 0), [], []⟩
def fn : List He.DefD := [d__law_days, d__law_plain, d__law_text, d__law_due, d_only_figures, d_read, d__law_asked, d__law_whole, d__law_right, d_law, d_BadTime]
def fa : List He.Fa := [.glo "_law_days", .glo "_law_plain", .glo "_law_text", .glo "_law_due", .glo "only_figures", .glo "read", .glo "_law_asked", .glo "_law_whole", .glo "_law_right", .glo "law", .glo "BadName", .glo "BadNumber", .glo "BadTime", .glo "FleetError", .glo "NoPlace", .glo "NoTrip", .glo "NoWay", .glo "TooMany", .glo "Twice", .free "ValueError", .free "bool", .free "int", .free "isinstance", .free "len", .free "range", .free "str", .int "DAY" 1440, .int "HOUR" 60, .int "LIMIT" 1000000000, .str "FIGURES" "0123456789"]
def exl (K : PySem.W.Frag) : List Bool := [isOk K [.ty "str"] tb_str,
  isOk K [.own "BadTime"] tb_BadTime,
  isOk K [.ty "ValueError"] tb_ValueError,
  isOk K [.own "BadName", .own "BadNumber", .own "TooMany", .own "Twice", .own "NoPlace", .own "NoTrip", .own "NoWay"] tb_of_BadName_7,
  isOk K [.ty "int"] tb_int,
  isOk K [.ty "bool"] tb_bool,
  caB K "FleetError" ct0,
  xfOk K ["BadTime"] "text",
  xiB K "BadTime" ["text"]]
def ex (K : PySem.W.Frag) : Bool := (exl K).all id
theorem ex_at {K : PySem.W.Frag} (h : ex K = true) (i : Nat) {b : Bool} (e : (exl K)[i]? = some b := by rfl) : b = true := List.all_eq_true.mp h b (List.mem_of_getElem? e)
abbrev R : PySem.W.OpenRow := PySem.W.OpenLaw.row PySem.Challenge.rw_fleetpath_k14_clock_read
abbrev hk : PySem.W.Hook := He.hookX 5 fa fn [] [] ex
def ob (s : PySem.W.SharedT) : He.AlX := He.obsX 5 fa fn [] [] ex (HandSHeadRun.getT s)
theorem ob_eq (s : PySem.W.SharedT) : ob s = hk.obs s.abs := He.obsX_eq (HandSHeadRun.getT_eq s)
def loose : List PySem.Str := (["LIMIT", "FleetError", "BadName", "BadNumber", "BadTime", "TooMany", "Twice", "NoPlace", "NoTrip", "NoWay", "DAY", "HOUR", "FIGURES", "only_figures", "read", "_law_whole", "_law_days", "_law_plain", "_law_text", "_law_due", "_law_asked", "_law_right"] : List PySem.Str)
theorem run (w : World) : HandSHeadRun.RunEq R (PySem.W.view R.prog [25]) hk ob 4000 loose w := by
  intro os
  kernel_rfl
theorem facts {P : Program} {w : World} {K : PySem.W.Frag} {h : Heap} {mg : Str → Option Value} {f : Addr} (X : K.In h) (G : h.Ns mainGlobals mg) (hfa : mg ("law" : Str) = some (.ref f)) (c : He.SaysX fa fn [] [] ex w h K) :
    ∃ fd : FuncData, (∀ (s : Shared) (v : Value), BindsTo s fd ⟨[v], []⟩ [("_law_script", v)]) ∧ ∀ base : Heap, K.In base → base.Ns mainGlobals mg → FnOk P w K mg base (L2N.CX P w) 6 f fd ["_law_script"] (spS ⟨K, []⟩ 1 run_law) := by
  have cd := c.t.d
  have hx := c.more
  have T : Tx K mg := ⟨He.free_ok X G (x := "ValueError") (cd.fact 19 rfl), He.free_ok X G (x := "bool") (cd.fact 20 rfl), He.free_ok X G (x := "int") (cd.fact 21 rfl), He.free_ok X G (x := "isinstance") (cd.fact 22 rfl), He.free_ok X G (x := "len") (cd.fact 23 rfl), He.free_ok X G (x := "range") (cd.fact 24 rfl), He.free_ok X G (x := "str") (cd.fact 25 rfl), He.int_ok X G (x := "DAY") (cd.fact 26 rfl), He.int_ok X G (x := "HOUR") (cd.fact 27 rfl), He.int_ok X G (x := "LIMIT") (cd.fact 28 rfl), He.str_ok X G (x := "FIGURES") (cd.fact 29 rfl), He.glo_ok X G (x := "BadName") (cd.fact 10 rfl), He.glo_ok X G (x := "BadNumber") (cd.fact 11 rfl), He.glo_ok X G (x := "BadTime") (cd.fact 12 rfl), He.glo_ok X G (x := "FleetError") (cd.fact 13 rfl), He.glo_ok X G (x := "NoPlace") (cd.fact 14 rfl), He.glo_ok X G (x := "NoTrip") (cd.fact 15 rfl), He.glo_ok X G (x := "NoWay") (cd.fact 16 rfl), He.glo_ok X G (x := "TooMany") (cd.fact 17 rfl), He.glo_ok X G (x := "Twice") (cd.fact 18 rfl), ex_at hx 0, ex_at hx 1, ex_at hx 2, ex_at hx 3, ex_at hx 4, ex_at hx 5, ex_at hx 6, ex_at hx 7, trivial⟩
  obtain ⟨fd__law_days, F__law_days⟩ := cd.def_ 0 (d := d__law_days) rfl
  obtain ⟨fd__law_plain, F__law_plain⟩ := cd.def_ 1 (d := d__law_plain) rfl
  obtain ⟨fd__law_text, F__law_text⟩ := cd.def_ 2 (d := d__law_text) rfl
  obtain ⟨fd__law_due, F__law_due⟩ := cd.def_ 3 (d := d__law_due) rfl
  obtain ⟨fd_only_figures, F_only_figures⟩ := cd.def_ 4 (d := d_only_figures) rfl
  obtain ⟨fd_read, F_read⟩ := cd.def_ 5 (d := d_read) rfl
  obtain ⟨fd__law_asked, F__law_asked⟩ := cd.def_ 6 (d := d__law_asked) rfl
  obtain ⟨fd__law_whole, F__law_whole⟩ := cd.def_ 7 (d := d__law_whole) rfl
  obtain ⟨fd__law_right, F__law_right⟩ := cd.def_ 8 (d := d__law_right) rfl
  obtain ⟨fd_law, F_law⟩ := cd.def_ 9 (d := d_law) rfl
  obtain ⟨fd_BadTime, F_BadTime⟩ := cd.def_ 10 (d := d_BadTime) rfl
  have g__law_days : mg "_law_days" = some (.ref (He.ga K "_law_days")) := He.glo_ok X G (cd.fact 0 rfl)
  have g__law_plain : mg "_law_plain" = some (.ref (He.ga K "_law_plain")) := He.glo_ok X G (cd.fact 1 rfl)
  have g__law_text : mg "_law_text" = some (.ref (He.ga K "_law_text")) := He.glo_ok X G (cd.fact 2 rfl)
  have g__law_due : mg "_law_due" = some (.ref (He.ga K "_law_due")) := He.glo_ok X G (cd.fact 3 rfl)
  have g_only_figures : mg "only_figures" = some (.ref (He.ga K "only_figures")) := He.glo_ok X G (cd.fact 4 rfl)
  have g_read : mg "read" = some (.ref (He.ga K "read")) := He.glo_ok X G (cd.fact 5 rfl)
  have g__law_asked : mg "_law_asked" = some (.ref (He.ga K "_law_asked")) := He.glo_ok X G (cd.fact 6 rfl)
  have g__law_whole : mg "_law_whole" = some (.ref (He.ga K "_law_whole")) := He.glo_ok X G (cd.fact 7 rfl)
  have g__law_right : mg "_law_right" = some (.ref (He.ga K "_law_right")) := He.glo_ok X G (cd.fact 8 rfl)
  have g_law : mg "law" = some (.ref (He.ga K "law")) := He.glo_ok X G (cd.fact 9 rfl)
  have e := hfa.symm.trans g_law
  cases e
  refine ⟨fd_law, fun s v => FunD.bindsA (ps := ["_law_script"]) F_law (fun _ _ _ _ _ _ us hl => match us, hl with | [_], _ => rfl) s [v] rfl, fun base _ _ => ?_⟩
  have X_BadTime : Xok P w K mg base "BadTime" _ _ := ok_BadTime (ex_at hx 8) (He.glo_ok X G (x := "BadTime") (cd.fact 12 rfl)) F_BadTime
  have G__law_days : Fok P w K mg base "_law_days" 1 1 run__law_days := ⟨⟨_, fd__law_days, _, ok__law_days T F__law_days, g__law_days, F__law_days.kp, F__law_days.bindsN fun _ _ _ _ _ _ us hl => match us, hl with | [_], _ => rfl⟩⟩
  have G__law_plain : Fok P w K mg base "_law_plain" 2 2 run__law_plain := ⟨⟨_, fd__law_plain, _, ok__law_plain T G__law_days F__law_plain, g__law_plain, F__law_plain.kp, F__law_plain.bindsN fun _ _ _ _ _ _ us hl => match us, hl with | [_, _], _ => rfl⟩⟩
  have G__law_text : Fok P w K mg base "_law_text" 3 2 run__law_text := ⟨⟨_, fd__law_text, _, ok__law_text T G__law_plain G__law_days F__law_text, g__law_text, F__law_text.kp, F__law_text.bindsN fun _ _ _ _ _ _ us hl => match us, hl with | [_, _], _ => rfl⟩⟩
  have G__law_due : Fok P w K mg base "_law_due" 1 1 run__law_due := ⟨⟨_, fd__law_due, _, ok__law_due T F__law_due, g__law_due, F__law_due.kp, F__law_due.bindsN fun _ _ _ _ _ _ us hl => match us, hl with | [_], _ => rfl⟩⟩
  have G_only_figures : Fok P w K mg base "only_figures" 1 1 run_only_figures := ⟨⟨_, fd_only_figures, _, ok_only_figures T F_only_figures, g_only_figures, F_only_figures.kp, F_only_figures.bindsN fun _ _ _ _ _ _ us hl => match us, hl with | [_], _ => rfl⟩⟩
  have G_read : Fok P w K mg base "read" 3 1 run_read := ⟨⟨_, fd_read, _, ok_read T G_only_figures X_BadTime F_read, g_read, F_read.kp, F_read.bindsN fun _ _ _ _ _ _ us hl => match us, hl with | [_], _ => rfl⟩⟩
  have G__law_asked : Fok P w K mg base "_law_asked" 4 1 run__law_asked := ⟨⟨_, fd__law_asked, _, ok__law_asked T G_read F__law_asked, g__law_asked, F__law_asked.kp, F__law_asked.bindsN fun _ _ _ _ _ _ us hl => match us, hl with | [_], _ => rfl⟩⟩
  have G__law_whole : Fok P w K mg base "_law_whole" 1 1 run__law_whole := ⟨⟨_, fd__law_whole, _, ok__law_whole T F__law_whole, g__law_whole, F__law_whole.kp, F__law_whole.bindsN fun _ _ _ _ _ _ us hl => match us, hl with | [_], _ => rfl⟩⟩
  have G__law_right : Fok P w K mg base "_law_right" 5 1 run__law_right := ⟨⟨_, fd__law_right, _, ok__law_right T G__law_due G__law_asked G__law_whole F__law_right, g__law_right, F__law_right.kp, F__law_right.bindsN fun _ _ _ _ _ _ us hl => match us, hl with | [_], _ => rfl⟩⟩
  exact ok_law T G__law_text G__law_right F_law
end
end Lw
namespace Lw
open PySem L2 DT
def p__law_days (cell : Int) : M Int := fnO 0 <|
  O.bind (.ok (((cell % 1000000007) * 48271) % 65537)) fun way =>
  if (decide ((way % 4) = 0)) = true then
  .rt ((way / 4) % 12)
  else
  if (decide ((way % 4) = 1)) = true then
  .rt (cell % 694445)
  else
  if (decide ((way % 4) = 2)) = true then
  .rt (694443 + ((way / 4) % 4))
  else
  .rt (cell % (10 ^ (8 : Nat) : Int))
def p__law_plain (cell : Int) (more : Int) : M Str := fnO "" <|
  O.bind (.ok (((more % 1000000007) * 16807) % 65521)) fun part =>
  O.bind (.ok (part % 26)) fun hours =>
  O.bind (.ok ((part / 26) % 62)) fun left =>
  O.bind (M.bind (M.bind (M.bind (M.bind (M.bind (p__law_days cell) fun t1 => (strG t1)) fun t2 => (addSG t2 ("." : Str))) fun t4 => (M.bind (M.bind (strG (100 + hours)) fun t3 => (slSG t3 (some 1) none)) fun t5 => (addSG t4 t5))) fun t6 => (addSG t6 (":" : Str))) fun t8 => (M.bind (M.bind (strG (100 + left)) fun t7 => (slSG t7 (some 1) none)) fun t9 => (addSG t8 t9))) .rt
def p__law_text (cell : Int) (more : Int) : M Str := fnO "" <|
  O.bind (.ok ("0123456789.: -+_aA" : Str)) fun some_ =>
  O.bind (p__law_plain cell more) fun plain_here =>
  O.bind (.ok (((more % 1000000007) * 48271) % 65497)) fun way =>
  O.bind (M.bind (lenSG plain_here) fun t1 => (modG (((cell % 1000000007) * 69621) % 65479) t1)) fun at_ =>
  O.bind (M.bind (M.bind (lenSG some_) fun t2 => (modG ((((cell + more) % 1000000007) * 16807) % 65449) t2)) fun t3 => (idxSG some_ t3)) fun sign =>
  if (decide ((way % 12) = 0)) = true then
  O.bind (M.bind (M.bind (slSG plain_here none (some at_)) fun t4 => (addSG t4 sign)) fun t5 => (M.bind (slSG plain_here (some (at_ + 1)) none) fun t6 => (addSG t5 t6))) .rt
  else
  if (decide ((way % 12) = 1)) = true then
  O.bind (M.bind (M.bind (slSG plain_here none (some at_)) fun t7 => (addSG t7 sign)) fun t8 => (M.bind (slSG plain_here (some at_) none) fun t9 => (addSG t8 t9))) .rt
  else
  if (decide ((way % 12) = 2)) = true then
  O.bind (M.bind (slSG plain_here none (some at_)) fun t10 => (M.bind (slSG plain_here (some (at_ + 1)) none) fun t11 => (addSG t10 t11))) .rt
  else
  if (decide ((way % 12) = 3)) = true then
  O.bind (M.bind (repSG ("0" : Str) ((((way / 12) % 4) * 100) + 1)) fun t12 => (addSG t12 plain_here)) .rt
  else
  if (decide ((way % 12) = 4)) = true then
  O.bind (M.bind (repSG ("9" : Str) ((((way / 12) % 4) * 100) + 1)) fun t13 => (addSG t13 plain_here)) .rt
  else
  if (decide ((way % 12) = 5)) = true then
  O.bind (M.bind (M.bind (M.bind (repSG ("0" : Str) 300) fun t14 => (.ok [("0" : Str), (" " : Str), ("\n" : Str), t14])) fun t15 => (idxG t15 ((way / 12) % 4))) fun t16 => (addSG plain_here t16)) .rt
  else
  if (decide ((way % 12) = 6)) = true then
  O.bind (replG "." ":" plain_here) .rt
  else
  if (decide ((way % 12) = 7)) = true then
  O.bind (M.bind (M.bind (M.bind (M.bind (M.bind (p__law_days cell) fun t17 => (strG t17)) fun t18 => (addSG t18 ("." : Str))) fun t19 => (M.bind (strG ((way / 12) % 24)) fun t20 => (addSG t19 t20))) fun t21 => (addSG t21 (":" : Str))) fun t22 => (M.bind (strG ((way / 288) % 60)) fun t23 => (addSG t22 t23))) .rt
  else
  .rt plain_here
def pb__law_due_0 (sign : Str) : O Unit Unit Int :=
  O.bind ((inSG sign ("0123456789" : Str)).bind fun b => .ok (!b)) fun b11 => if b11 = true then
  .rt (-1)
  else .nx ()
def p__law_due (text_here : Str) : M Int := fnO 0 <|
  O.bind (partG text_here ("." : Str)) fun q1 =>
  O.bind (M.or (.ok (decide (q1.2.1 = ("" : Str)))) (M.or (M.bind (lenSG q1.2.2) fun t2 => (.ok (!decide (t2 = 5)))) (M.or (M.bind (idxSG q1.2.2 2) fun t3 => (.ok (!decide (t3 = (":" : Str))))) (M.or (M.bind (lenSG q1.1) fun t4 => (.ok (decide (t4 < 1)))) (M.bind (lenSG q1.1) fun t5 => (.ok (decide (6 < t5)))))))) fun b6 => if b6 = true then
  .rt (-1)
  else
  O.bind ((M.bind (M.bind (slSG q1.2.2 none (some 2)) fun t7 => (addSG q1.1 t7)) fun t8 => (M.bind (slSG q1.2.2 (some 3) none) fun t9 => (addSG t8 t9))).bind fun z => .ok (chars z)) fun xs27 => O.seq (forO (fun it st => pb__law_due_0 it ) xs27 ()) fun _ =>
  O.bind (M.or (M.and (M.bind (lenSG q1.1) fun t12 => (.ok (decide (1 < t12)))) (M.bind (idxSG q1.1 0) fun t13 => (.ok (decide (t13 = ("0" : Str)))))) (M.or (M.bind (M.bind (slSG q1.2.2 none (some 2)) fun t14 => (intSG t14)) fun t15 => (.ok (decide (23 < t15)))) (M.bind (M.bind (slSG q1.2.2 (some 3) none) fun t16 => (intSG t16)) fun t17 => (.ok (decide (59 < t17)))))) fun b18 => if b18 = true then
  .rt (-1)
  else
  O.bind (M.bind (M.bind (M.bind (intSG q1.1) fun t19 => (.ok (1440 * t19))) fun t22 => (M.bind (M.bind (M.bind (slSG q1.2.2 none (some 2)) fun t20 => (intSG t20)) fun t21 => (.ok (60 * t21))) fun t23 => (.ok (t22 + t23)))) fun t25 => (M.bind (M.bind (slSG q1.2.2 (some 3) none) fun t24 => (intSG t24)) fun t26 => (.ok (t25 + t26)))) fun found =>
  if (decide ((10 ^ (9 : Nat) : Int) < found)) = true then
  .rt (-1)
  else
  .rt found
def pb_only_figures_0 (sign : Str) : O Unit Unit Bool :=
  O.bind ((inSG sign ("0123456789" : Str)).bind fun b => .ok (!b)) fun b2 => if b2 = true then
  .rt false
  else .nx ()
def p_only_figures (signs : Str) : M Bool := fnO false <|
  O.seq (forO (fun it st => pb_only_figures_0 it ) (chars signs) ()) fun _ =>
  .rt true
def p_read (text : Str) : M Int := fnO 0 <|
  O.bind (M.or (M.bind (lenSG text) fun t1 => (.ok (decide (t1 < 7)))) (M.bind (lenSG text) fun t2 => (.ok (decide (12 < t2))))) fun b3 => if b3 = true then
  .ex (mkX "BadTime" [("text", 0)] [eS text])
  else
  O.bind (slSG text none (some (-6))) fun days =>
  O.bind (slSG text (some (-5)) (some (-3))) fun hours =>
  O.bind (slSG text (some (-2)) none) fun minutes =>
  O.bind (M.or (M.bind (idxSG text (-6)) fun t4 => (.ok (!decide (t4 = ("." : Str))))) (M.or (M.bind (idxSG text (-3)) fun t5 => (.ok (!decide (t5 = (":" : Str))))) ((M.bind (M.bind (addSG days hours) fun t6 => (addSG t6 minutes)) fun t7 => (p_only_figures t7)).bind fun b => .ok (!b)))) fun b8 => if b8 = true then
  .ex (mkX "BadTime" [("text", 0)] [eS text])
  else
  O.bind (M.or (M.and (M.bind (idxSG days 0) fun t9 => (.ok (decide (t9 = ("0" : Str))))) (M.bind (lenSG days) fun t10 => (.ok (decide (1 < t10))))) (M.or (M.bind (intSG hours) fun t11 => (.ok (decide (23 < t11)))) (M.bind (intSG minutes) fun t12 => (.ok (decide (59 < t12)))))) fun b13 => if b13 = true then
  .ex (mkX "BadTime" [("text", 0)] [eS text])
  else
  O.bind (M.bind (M.bind (M.bind (intSG days) fun t14 => (.ok (t14 * 1440))) fun t16 => (M.bind (M.bind (intSG hours) fun t15 => (.ok (t15 * 60))) fun t17 => (.ok (t16 + t17)))) fun t18 => (M.bind (intSG minutes) fun t19 => (.ok (t18 + t19)))) fun minute =>
  if (decide (1000000000 < minute)) = true then
  .ex (mkX "BadTime" [("text", 0)] [eS text])
  else
  .rt minute
def p__law_asked (text_here : Str) : M (Str × D) := fnO ("", (.a .non)) <|
  O.bind (.ok (none : (Option Int))) fun found =>
  O.seq (σ := (Option Int)) (tryP (fun c => ct0.lookup c) (
  O.bind ((p_read text_here).bind fun a => .ok (some a)) fun found =>
  .nx found) (fun exn => O.noX <|
  O.bind (M.and (isXG tb_BadTime exn) (isXG tb_ValueError exn)) fun plain_here =>
  O.bind (M.or (.ok (!plain_here)) (isXG tb_of_BadName_7 exn)) fun b2 => if b2 = true then
  O.bind (.ok (("refused otherwise" : Str), (eS ("" : Str)))) (rtNx (F (eP2 eS eD)))
  else
  O.bind (M.bind (xfG ["BadTime"] "text" exn) fun t3 => (.ok (("refused" : Str), t3))) (rtNx (F (eP2 eS eD))))) fun st1 =>
  .rt (("told" : Str), ((eO eI) st1))
def p__law_whole (found : D) : M Bool := fnO false <|
  O.bind (M.and (isDG tb_int found) ((isDG tb_bool found).bind fun b => .ok (!b))) .rt
def p__law_right (text_here : Str) : M Bool := fnO false <|
  O.bind (p__law_due text_here) fun due_here =>
  O.bind (p__law_asked text_here) fun found =>
  if (decide (due_here < 0)) = true then
  O.bind (M.and (.ok (decide (found.1 = ("refused" : Str)))) (M.and (isDG tb_str found.2) (eqDG found.2 (eS text_here)))) .rt
  else
  O.bind (M.and (.ok (decide (found.1 = ("told" : Str)))) (M.and (p__law_whole found.2) (eqDG found.2 (eI due_here)))) .rt
def pb_law_0 (cells : (List Int)) (k_ : Int) (texts : (List Str)) : O (List Str) (List Str) Bool :=
  O.bind (M.bind (M.bind (idxG cells (2 * k_)) fun t2 => (M.bind (idxG cells ((2 * k_) + 1)) fun t3 => (p__law_text t2 t3))) fun a => appG texts a) fun texts =>
  .nx texts
def pb_law_1 (text_here : Str) : O Unit Unit Bool :=
  O.bind ((p__law_right text_here).bind fun b => .ok (!b)) fun b7 => if b7 = true then
  .rt false
  else .nx ()
def p_law (script : (List Int)) : M Bool := fnO false <|
  O.bind (catG (cutT script none (some 60)) [0, 0]) fun cells =>
  O.bind (.ok [("" : Str)]) fun texts =>
  O.bind (rngG ((cells.length : Int) / 2)) fun xs9 => O.seq (forO (fun it st => pb_law_0 cells it st) xs9 texts) fun st1 =>
  O.bind (M.bind (M.bind (idxG st1 1) fun t4 => (.ok [t4])) fun t5 => (catG st1 t5)) fun xs8 => O.seq (forO (fun it st => pb_law_1 it ) xs8 ()) fun _ =>
  .rt true
theorem p__law_days_ok (cell : Int) : RvR (F eI) (p__law_days cell) (run__law_days [(F eI) cell]).v := by
  unfold p__law_days
  show RvR _ _ (fin 1 ws__law_days (sem__law_days [some ((F eI) cell), none])).v
  refine fn_okN ?_
  unfold sem__law_days
  refine j_asg (s := (F eI)) ?_ (fun _ => rfl) trivial (fun way => ?_)
  · exact (rv_ok (t_2 (t_2 (t_2 (vvF rfl) t_c (t_mod (by decide))) t_c (t_mul (mulC_r (by decide)))) t_c (t_mod (by decide))))
  refine j_if1 (tb_v (t_2 (t_2 (vvF rfl) t_c (t_mod (by decide))) t_c t_eqI)) ?_ ?_
  · exact j_ret (s := (F eI)) (rv_ok (t_2 (t_2 (vvF rfl) t_c (t_fdiv (by decide))) t_c (t_mod (by decide)))) trivial (fun _ => rfl) (fun _ => rfl)
  · refine j_nx ?_
    refine j_if1 (tb_v (t_2 (t_2 (vvF rfl) t_c (t_mod (by decide))) t_c t_eqI)) ?_ ?_
    · exact j_ret (s := (F eI)) (rv_ok (t_2 (vvF rfl) t_c (t_mod (by decide)))) trivial (fun _ => rfl) (fun _ => rfl)
    · refine j_nx ?_
      refine j_if1 (tb_v (t_2 (t_2 (vvF rfl) t_c (t_mod (by decide))) t_c t_eqI)) ?_ ?_
      · exact j_ret (s := (F eI)) (rv_ok (t_2 t_c (t_2 (t_2 (vvF rfl) t_c (t_fdiv (by decide))) t_c (t_mod (by decide))) t_add)) trivial (fun _ => rfl) (fun _ => rfl)
      · refine j_nx ?_
        exact j_ret (s := (F eI)) (rv_ok (t_2 (vvF rfl) (t_2 t_c t_c (t_pow (n := 8) (by decide) rfl)) (t_mod (by decide)))) trivial (fun _ => rfl) (fun _ => rfl)
theorem p__law_plain_ok (cell : Int) (more : Int) : RvR (F eS) (p__law_plain cell more) (run__law_plain [(F eI) cell, (F eI) more]).v := by
  unfold p__law_plain
  show RvR _ _ (fin 2 ws__law_plain (sem__law_plain [some ((F eI) cell), some ((F eI) more), none, none, none])).v
  refine fn_okN ?_
  unfold sem__law_plain
  refine j_asg (s := (F eI)) ?_ (fun _ => rfl) trivial (fun part => ?_)
  · exact (rv_ok (t_2 (t_2 (t_2 (vvF rfl) t_c (t_mod (by decide))) t_c (t_mul (mulC_r (by decide)))) t_c (t_mod (by decide))))
  refine j_asg (s := (F eI)) ?_ (fun _ => rfl) trivial (fun hours => ?_)
  · exact (rv_ok (t_2 (vvF rfl) t_c (t_mod (by decide))))
  refine j_asg (s := (F eI)) ?_ (fun _ => rfl) trivial (fun left => ?_)
  · exact (rv_ok (t_2 (t_2 (vvF rfl) t_c (t_fdiv (by decide))) t_c (t_mod (by decide))))
  exact j_ret (s := (F eS)) (m_2a (m_2a (m_2a (m_2a (m_1 (c_f (a_t (vvF rfl) (a_n (p__law_days_ok cell)))) fun t1 ht1 => (g_1 ht1 g_str)) fun t2 ht2 => (g_2 ht2 t_c g_addS)) fun t4 ht4 => (m_2b ht4 (m_sa (g_1 (t_2 t_c (vvF rfl) t_add) g_str) fun t3 ht3 => (g_s ht3 (oo_s t_c) oo_n g_slS)) fun t5 ht5 => (g_2 ht4 ht5 g_addS))) fun t6 ht6 => (g_2 ht6 t_c g_addS)) fun t8 ht8 => (m_2b ht8 (m_sa (g_1 (t_2 t_c (vvF rfl) t_add) g_str) fun t7 ht7 => (g_s ht7 (oo_s t_c) oo_n g_slS)) fun t9 ht9 => (g_2 ht8 ht9 g_addS))) trivial (fun _ => rfl) (fun _ => rfl)
theorem p__law_text_ok (cell : Int) (more : Int) : RvR (F eS) (p__law_text cell more) (run__law_text [(F eI) cell, (F eI) more]).v := by
  unfold p__law_text
  show RvR _ _ (fin 2 ws__law_text (sem__law_text [some ((F eI) cell), some ((F eI) more), none, none, none, none, none])).v
  refine fn_okN ?_
  unfold sem__law_text
  refine j_asg (s := (F eS)) ?_ (fun _ => rfl) trivial (fun some_ => ?_)
  · exact (rv_ok t_c)
  refine j_asg (s := (F eS)) (c_f (a_t (vvF rfl) (a_t (vvF rfl) (a_n (p__law_plain_ok cell more))))) (fun _ => rfl) trivial (fun plain_here => ?_)
  refine j_asg (s := (F eI)) ?_ (fun _ => rfl) trivial (fun way => ?_)
  · exact (rv_ok (t_2 (t_2 (t_2 (vvF rfl) t_c (t_mod (by decide))) t_c (t_mul (mulC_r (by decide)))) t_c (t_mod (by decide))))
  refine j_asg (s := (F eI)) (m_2b (t_2 (t_2 (t_2 (vvF rfl) t_c (t_mod (by decide))) t_c (t_mul (mulC_r (by decide)))) t_c (t_mod (by decide))) (g_1 (vvF rfl) g_lenS) fun t1 ht1 => (g_2 (t_2 (t_2 (t_2 (vvF rfl) t_c (t_mod (by decide))) t_c (t_mul (mulC_r (by decide)))) t_c (t_mod (by decide))) ht1 g_mod)) (fun _ => rfl) trivial (fun at_ => ?_)
  refine j_asg (s := (F eS)) (m_2b (vvF rfl) (m_2b (t_2 (t_2 (t_2 (t_2 (vvF rfl) (vvF rfl) t_add) t_c (t_mod (by decide))) t_c (t_mul (mulC_r (by decide)))) t_c (t_mod (by decide))) (g_1 (vvF rfl) g_lenS) fun t2 ht2 => (g_2 (t_2 (t_2 (t_2 (t_2 (vvF rfl) (vvF rfl) t_add) t_c (t_mod (by decide))) t_c (t_mul (mulC_r (by decide)))) t_c (t_mod (by decide))) ht2 g_mod)) fun t3 ht3 => (g_2 (vvF rfl) ht3 g_idxS)) (fun _ => rfl) trivial (fun sign => ?_)
  refine j_if1 (tb_v (t_2 (t_2 (vvF rfl) t_c (t_mod (by decide))) t_c t_eqI)) ?_ ?_
  · refine j_last ?_
    refine j_fz (u := (F eS sign)) rfl rfl (Tf rfl) ?_
    refine j_unlast ?_
    exact j_ret (s := (F eS)) (m_2a (m_2a (g_s (vvF rfl) oo_n (oo_s (vvF rfl)) g_slS) fun t4 ht4 => (g_2 ht4 (vvF rfl) g_addS)) fun t5 ht5 => (m_2b ht5 (g_s (vvF rfl) (oo_s (t_2 (vvF rfl) t_c t_add)) oo_n g_slS) fun t6 ht6 => (g_2 ht5 ht6 g_addS))) trivial (fun _ => rfl) (fun _ => rfl)
  · refine j_nx ?_
    refine j_if1 (tb_v (t_2 (t_2 (vvF rfl) t_c (t_mod (by decide))) t_c t_eqI)) ?_ ?_
    · refine j_last ?_
      refine j_fz (u := (F eS sign)) rfl rfl (Tf rfl) ?_
      refine j_unlast ?_
      exact j_ret (s := (F eS)) (m_2a (m_2a (g_s (vvF rfl) oo_n (oo_s (vvF rfl)) g_slS) fun t7 ht7 => (g_2 ht7 (vvF rfl) g_addS)) fun t8 ht8 => (m_2b ht8 (g_s (vvF rfl) (oo_s (vvF rfl)) oo_n g_slS) fun t9 ht9 => (g_2 ht8 ht9 g_addS))) trivial (fun _ => rfl) (fun _ => rfl)
    · refine j_nx ?_
      refine j_if1 (tb_v (t_2 (t_2 (vvF rfl) t_c (t_mod (by decide))) t_c t_eqI)) ?_ ?_
      · exact j_ret (s := (F eS)) (m_2a (g_s (vvF rfl) oo_n (oo_s (vvF rfl)) g_slS) fun t10 ht10 => (m_2b ht10 (g_s (vvF rfl) (oo_s (t_2 (vvF rfl) t_c t_add)) oo_n g_slS) fun t11 ht11 => (g_2 ht10 ht11 g_addS))) trivial (fun _ => rfl) (fun _ => rfl)
      · refine j_nx ?_
        refine j_if1 (tb_v (t_2 (t_2 (vvF rfl) t_c (t_mod (by decide))) t_c t_eqI)) ?_ ?_
        · refine j_last ?_
          refine j_fz (u := (F eS plain_here)) rfl rfl (Tf rfl) ?_
          refine j_unlast ?_
          exact j_ret (s := (F eS)) (m_2a (g_2 t_c (t_2 (t_2 (t_2 (t_2 (vvF rfl) t_c (t_fdiv (by decide))) t_c (t_mod (by decide))) t_c (t_mul (mulC_r (by decide)))) t_c t_add) g_repS) fun t12 ht12 => (g_2 ht12 (vvF rfl) g_addS)) trivial (fun _ => rfl) (fun _ => rfl)
        · refine j_nx ?_
          refine j_if1 (tb_v (t_2 (t_2 (vvF rfl) t_c (t_mod (by decide))) t_c t_eqI)) ?_ ?_
          · refine j_last ?_
            refine j_fz (u := (F eS plain_here)) rfl rfl (Tf rfl) ?_
            refine j_unlast ?_
            exact j_ret (s := (F eS)) (m_2a (g_2 t_c (t_2 (t_2 (t_2 (t_2 (vvF rfl) t_c (t_fdiv (by decide))) t_c (t_mod (by decide))) t_c (t_mul (mulC_r (by decide)))) t_c t_add) g_repS) fun t13 ht13 => (g_2 ht13 (vvF rfl) g_addS)) trivial (fun _ => rfl) (fun _ => rfl)
          · refine j_nx ?_
            refine j_if1 (tb_v (t_2 (t_2 (vvF rfl) t_c (t_mod (by decide))) t_c t_eqI)) ?_ ?_
            · refine j_last ?_
              refine j_fz (u := (F eS plain_here)) rfl rfl (Tf rfl) ?_
              refine j_unlast ?_
              exact j_ret (s := (F eS)) (m_2b (vvF rfl) (m_2a (c_l (a_t t_c (a_t t_c (a_t t_c (a_m (g_2 t_c t_c g_repS) fun t14 => (a_n (show RvR (OL (F eS)) (.ok [("0" : Str), (" " : Str), ("\n" : Str), t14]) _ from rfl))))))) fun t15 ht15 => (g_2 ht15 (t_2 (t_2 (vvF rfl) t_c (t_fdiv (by decide))) t_c (t_mod (by decide))) (g_idx rdO))) fun t16 ht16 => (g_2 (vvF rfl) ht16 g_addS)) trivial (fun _ => rfl) (fun _ => rfl)
            · refine j_nx ?_
              refine j_if1 (tb_v (t_2 (t_2 (vvF rfl) t_c (t_mod (by decide))) t_c t_eqI)) ?_ ?_
              · exact j_ret (s := (F eS)) (g_1 (vvF rfl) g_repl) trivial (fun _ => rfl) (fun _ => rfl)
              · refine j_nx ?_
                refine j_if1 (tb_v (t_2 (t_2 (vvF rfl) t_c (t_mod (by decide))) t_c t_eqI)) ?_ ?_
                · exact j_ret (s := (F eS)) (m_2a (m_2a (m_2a (m_2a (m_1 (c_f (a_t (vvF rfl) (a_n (p__law_days_ok cell)))) fun t17 ht17 => (g_1 ht17 g_str)) fun t18 ht18 => (g_2 ht18 t_c g_addS)) fun t19 ht19 => (m_2b ht19 (g_1 (t_2 (t_2 (vvF rfl) t_c (t_fdiv (by decide))) t_c (t_mod (by decide))) g_str) fun t20 ht20 => (g_2 ht19 ht20 g_addS))) fun t21 ht21 => (g_2 ht21 t_c g_addS)) fun t22 ht22 => (m_2b ht22 (g_1 (t_2 (t_2 (vvF rfl) t_c (t_fdiv (by decide))) t_c (t_mod (by decide))) g_str) fun t23 ht23 => (g_2 ht22 ht23 g_addS))) trivial (fun _ => rfl) (fun _ => rfl)
                · refine j_nx ?_
                  exact j_retMv rfl rfl rfl
theorem p__law_due_ok (text_here : Str) : RvR (F eI) (p__law_due text_here) (run__law_due [(F eS) text_here]).v := by
  unfold p__law_due
  show RvR _ _ (fin 1 ws__law_due (sem__law_due [some ((F eS) text_here), none, none, none, none, none])).v
  refine fn_okN ?_
  unfold sem__law_due
  refine j_asgG (s := (OP3 (F eS) (F eS) (F eS))) (g_2 (t_so (vvF rfl)) t_c g_part) (fun _ => (nlOP3 (fun _ => rfl) (fun _ => rfl) (fun _ => rfl))) trivial (fun _ => rfl) (fun q1 => ?_)
  refine j_tm (mb_or (rb_ok (tb_v (t_2 (vvF rfl) t_c t_eqS))) (mb_or (mb_v (m_2a (g_1 (vvF rfl) g_lenS) fun t2 ht2 => (rv_ok (t_2 ht2 t_c t_neI)))) (mb_or (mb_v (m_2a (g_2 (vvF rfl) t_c g_idxS) fun t3 ht3 => (rv_ok (t_2 ht3 t_c t_neS)))) (mb_or (mb_v (m_2a (g_1 (vvF rfl) g_lenS) fun t4 ht4 => (rv_ok (t_2 ht4 t_c t_lt)))) (mb_v (m_2a (g_1 (vvF rfl) g_lenS) fun t5 ht5 => (rv_ok (t_2 ht5 t_c t_gt)))))))) trivial (fun b6 hb6 => ?_)
  refine j_if1 hb6 ?_ ?_
  · exact j_ret (s := (F eI)) (rv_ok (t_1 t_c t_neg)) trivial (fun _ => rfl) (fun _ => rfl)
  · refine j_nx ?_
    refine j_fz (u := (F eS q1.2.2)) rfl rfl (Tf rfl) ?_
    refine j_fz (u := (F eS q1.1)) rfl rfl (Tf rfl) ?_
    refine j_for (s := (F eS)) (fb := (fun it st => pb__law_due_0 it )) (y0 := ()) (fun (st : Unit) (en : En) => ∃ o4 : Option T, en = [some ((F eS) text_here), some ((F eS) q1.1), some ((F eS) q1.2.1), some ((F eS) q1.2.2), o4, none]) (m_seqS (m_2a (m_2b (vhF rfl) (g_s (vhF rfl) oo_n (oo_s t_c) g_slS) fun t7 ht7 => (g_2 (vhF rfl) ht7 g_addS)) fun t8 ht8 => (m_2b ht8 (g_s (vhF rfl) (oo_s t_c) oo_n g_slS) fun t9 ht9 => (g_2 ht8 ht9 g_addS)))) trivial ⟨_, rfl⟩ ?_ ?_
    · rintro sign _ _ ⟨o4, rfl⟩
      refine ⟨_, rfl, ?_⟩
      unfold lb__law_due_0 pb__law_due_0
      refine j_tm' (mb_v (g_2 (vvF rfl) t_c g_ninS)) trivial (fun b11 hb11 => ?_)
      refine j_if hb11 ?_ ?_
      · exact j_ret (s := (F eI)) (rv_ok (t_1 t_c t_neg)) trivial (fun _ => rfl) (fun _ => rfl)
      · exact j_end ⟨_, rfl⟩
    · rintro _ _ ⟨o4, rfl⟩
      unfold tl__law_due_0
      refine j_tm (mb_or (mb_and (mb_v (m_2a (g_1 (vvF rfl) g_lenS) fun t12 ht12 => (rv_ok (t_2 ht12 t_c t_gt)))) (mb_v (m_2a (g_2 (vvF rfl) t_c g_idxS) fun t13 ht13 => (rv_ok (t_2 ht13 t_c t_eqS))))) (mb_or (mb_v (m_2a (m_1 (g_s (vvF rfl) oo_n (oo_s t_c) g_slS) fun t14 ht14 => (g_1 ht14 g_intS)) fun t15 ht15 => (rv_ok (t_2 ht15 t_c t_gt)))) (mb_v (m_2a (m_1 (g_s (vvF rfl) (oo_s t_c) oo_n g_slS) fun t16 ht16 => (g_1 ht16 g_intS)) fun t17 ht17 => (rv_ok (t_2 ht17 t_c t_gt)))))) trivial (fun b18 hb18 => ?_)
      refine j_if1 hb18 ?_ ?_
      · exact j_ret (s := (F eI)) (rv_ok (t_1 t_c t_neg)) trivial (fun _ => rfl) (fun _ => rfl)
      · refine j_nx ?_
        refine j_asg (s := (F eI)) (m_2a (m_2a (m_2b t_c (g_1 (vvF rfl) g_intS) fun t19 ht19 => (rv_ok (t_2 t_c ht19 (t_mul (mulC_l (by decide)))))) fun t22 ht22 => (m_2b ht22 (m_2b t_c (m_1 (g_s (vvF rfl) oo_n (oo_s t_c) g_slS) fun t20 ht20 => (g_1 ht20 g_intS)) fun t21 ht21 => (rv_ok (t_2 t_c ht21 (t_mul (mulC_l (by decide)))))) fun t23 ht23 => (rv_ok (t_2 ht22 ht23 t_add)))) fun t25 ht25 => (m_2b ht25 (m_1 (g_s (vvF rfl) (oo_s t_c) oo_n g_slS) fun t24 ht24 => (g_1 ht24 g_intS)) fun t26 ht26 => (rv_ok (t_2 ht25 ht26 t_add)))) (fun _ => rfl) trivial (fun found => ?_)
        refine j_if1 (tb_v (t_2 (vvF rfl) (t_2 t_c t_c (t_pow (n := 9) (by decide) rfl)) t_gt)) ?_ ?_
        · exact j_ret (s := (F eI)) (rv_ok (t_1 t_c t_neg)) trivial (fun _ => rfl) (fun _ => rfl)
        · refine j_nx ?_
          exact j_retMv rfl rfl rfl
theorem p_only_figures_ok (signs : Str) : RvR (F eB) (p_only_figures signs) (run_only_figures [(F eS) signs]).v := by
  unfold p_only_figures
  show RvR _ _ (fin 1 ws_only_figures (sem_only_figures [some ((F eS) signs), none])).v
  refine fn_okN ?_
  unfold sem_only_figures
  refine j_fz (u := (F eS signs)) rfl rfl (Tf rfl) ?_
  refine j_for (s := (F eS)) (fb := (fun it st => pb_only_figures_0 it )) (y0 := ()) (fun (st : Unit) (en : En) => ∃ o1 : Option T, en = [some ((F eS) signs), o1]) (ri_ok (t_seqS (vhF rfl))) trivial ⟨_, rfl⟩ ?_ ?_
  · rintro sign _ _ ⟨o1, rfl⟩
    refine ⟨_, rfl, ?_⟩
    unfold lb_only_figures_0 pb_only_figures_0
    refine j_tm' (mb_v (g_2 (vvF rfl) t_c g_ninS)) trivial (fun b2 hb2 => ?_)
    refine j_if hb2 ?_ ?_
    · exact j_ret (s := (F eB)) (rv_ok t_c) trivial (fun _ => rfl) (fun _ => rfl)
    · exact j_end ⟨_, rfl⟩
  · rintro _ _ ⟨o1, rfl⟩
    unfold tl_only_figures_0
    exact j_ret (s := (F eB)) (rv_ok t_c) trivial (fun _ => rfl) (fun _ => rfl)
theorem p_read_ok (text : Str) : RvR (F eI) (p_read text) (run_read [(F eS) text]).v := by
  unfold p_read
  show RvR _ _ (fin 1 ws_read (sem_read [some ((F eS) text), none, none, none, none])).v
  refine fn_okN ?_
  unfold sem_read
  refine j_tm (mb_or (mb_v (m_2a (g_1 (vvF rfl) g_lenS) fun t1 ht1 => (rv_ok (t_2 ht1 t_c t_lt)))) (mb_v (m_2a (g_1 (vvF rfl) g_lenS) fun t2 ht2 => (rv_ok (t_2 ht2 t_c t_gt))))) trivial (fun b3 hb3 => ?_)
  refine j_if1 hb3 ?_ ?_
  · exact j_raise (oa_t (vvF rfl) <| oa_n (j_ex trivial))
  · refine j_nx ?_
    refine j_asg (s := (F eS)) (g_s (vvF rfl) oo_n (oo_s (t_1 t_c t_neg)) g_slS) (fun _ => rfl) trivial (fun days => ?_)
    refine j_asg (s := (F eS)) (g_s (vvF rfl) (oo_s (t_1 t_c t_neg)) (oo_s (t_1 t_c t_neg)) g_slS) (fun _ => rfl) trivial (fun hours => ?_)
    refine j_asg (s := (F eS)) (g_s (vvF rfl) (oo_s (t_1 t_c t_neg)) oo_n g_slS) (fun _ => rfl) trivial (fun minutes => ?_)
    refine j_fz (u := (F eS hours)) rfl rfl (Tf rfl) ?_
    refine j_fz (u := (F eS days)) rfl rfl (Tf rfl) ?_
    refine j_fz (u := (F eS minutes)) rfl rfl (Tf rfl) ?_
    refine j_tm (mb_or (mb_v (m_2a (g_2 (vvF rfl) (t_1 t_c t_neg) g_idxS) fun t4 ht4 => (rv_ok (t_2 ht4 t_c t_neS)))) (mb_or (mb_v (m_2a (g_2 (vvF rfl) (t_1 t_c t_neg) g_idxS) fun t5 ht5 => (rv_ok (t_2 ht5 t_c t_neS)))) (mb_not (mb_v (c_f (a_m (m_2a (g_2 (vvF rfl) (vvF rfl) g_addS) fun t6 ht6 => (g_2 ht6 (vvF rfl) g_addS)) fun t7 => (a_n (p_only_figures_ok t7)))))))) trivial (fun b8 hb8 => ?_)
    refine j_if1 hb8 ?_ ?_
    · exact j_raise (oa_t (vvF rfl) <| oa_n (j_ex trivial))
    · refine j_nx ?_
      refine j_tm (mb_or (mb_and (mb_v (m_2a (g_2 (vvF rfl) t_c g_idxS) fun t9 ht9 => (rv_ok (t_2 ht9 t_c t_eqS)))) (mb_v (m_2a (g_1 (vvF rfl) g_lenS) fun t10 ht10 => (rv_ok (t_2 ht10 t_c t_gt))))) (mb_or (mb_v (m_2a (g_1 (vvF rfl) g_intS) fun t11 ht11 => (rv_ok (t_2 ht11 t_c t_gt)))) (mb_v (m_2a (g_1 (vvF rfl) g_intS) fun t12 ht12 => (rv_ok (t_2 ht12 t_c t_gt)))))) trivial (fun b13 hb13 => ?_)
      refine j_if1 hb13 ?_ ?_
      · exact j_raise (oa_t (vvF rfl) <| oa_n (j_ex trivial))
      · refine j_nx ?_
        refine j_asg (s := (F eI)) (m_2a (m_2a (m_2a (g_1 (vvF rfl) g_intS) fun t14 ht14 => (rv_ok (t_2 ht14 t_c (t_mul (mulC_r (by decide)))))) fun t16 ht16 => (m_2b ht16 (m_2a (g_1 (vvF rfl) g_intS) fun t15 ht15 => (rv_ok (t_2 ht15 t_c (t_mul (mulC_r (by decide)))))) fun t17 ht17 => (rv_ok (t_2 ht16 ht17 t_add)))) fun t18 ht18 => (m_2b ht18 (g_1 (vvF rfl) g_intS) fun t19 ht19 => (rv_ok (t_2 ht18 ht19 t_add)))) (fun _ => rfl) trivial (fun minute => ?_)
        refine j_if1 (tb_v (t_2 (vvF rfl) t_c t_gt)) ?_ ?_
        · exact j_raise (oa_t (vvF rfl) <| oa_n (j_ex trivial))
        · refine j_nx ?_
          exact j_retMv rfl rfl rfl
theorem p__law_asked_ok (text_here : Str) : RvR (F (eP2 eS eD)) (p__law_asked text_here) (run__law_asked [(F eS) text_here]).v := by
  unfold p__law_asked
  show RvR _ _ (fin 1 ws__law_asked (sem__law_asked [some ((F eS) text_here), none, none, none])).v
  refine fn_okN ?_
  unfold sem__law_asked
  refine j_asg (s := (F (eO eI))) ?_ (fun _ => rfl) trivial (fun found => ?_)
  · exact (rv_ok t_c)
  refine j_cut (fun (st : (Option Int)) (en : En) => ∃ o2 o3 : Option T, en = [some ((F eS) text_here), some ((F (eO eI)) st), o2, o3]) ?_ ?_
  · refine j_tryAs (fun en => ∃ o1 : Option T, en = [some ((F eS) text_here), o1, none, none]) ?_ ?_ ?_
    · refine j_last ?_
      refine j_asg (s := (F (eO eI))) (rv_some (c_f (a_t (vvF rfl) (a_n (p_read_ok text_here))))) (fun _ => rfl) ⟨_, rfl⟩ (fun found => ?_)
      exact j_end ⟨_, _, rfl⟩
    · rintro _ ⟨o1, rfl⟩
      exact trivial
    · rintro exn _ ⟨o1, rfl⟩
      refine j_noX ?_
      refine j_asg (s := (F eB)) (mv_and (mb_v (g_1 (vvF rfl) g_isX)) (g_1 (vvF rfl) g_isX)) (fun _ => rfl) trivial (fun plain_here => ?_)
      refine j_tm (mb_or (rb_ok (tb_not (tb_v (vvF rfl)))) (mb_v (g_1 (vvF rfl) g_isX))) trivial (fun b2 hb2 => ?_)
      refine j_if1 hb2 ?_ ?_
      · exact j_retX (s := (F (eP2 eS eD))) (rv_ok (ok_rv (s := (F (eP2 eS eD))) (a := (("refused otherwise" : Str), (eS ("" : Str)))) (c_t (a_t t_c (a_t t_c (a_n (show RvR (F (eP2 eS eD)) (.ok (("refused otherwise" : Str), (eS ("" : Str)))) _ from rfl))))))) trivial (fun _ => rfl) (fun _ hx => ⟨hx, rfl⟩)
      · refine j_nx ?_
        exact j_retX (s := (F (eP2 eS eD))) (c_t (a_t t_c (a_m (g_1 (vvF rfl) g_xf) fun t3 => (a_n (show RvR (F (eP2 eS eD)) (.ok (("refused" : Str), t3)) _ from rfl))))) trivial (fun _ => rfl) (fun _ hx => ⟨hx, rfl⟩)
  · rintro st1 _ ⟨o2, o3, rfl⟩
    refine j_last ?_
    refine j_fz (u := (F (eO eI) st1)) rfl rfl (Tf rfl) ?_
    refine j_unlast ?_
    exact j_ret (s := (F (eP2 eS eD))) (rv_ok (ok_rv (s := (F (eP2 eS eD))) (a := (("told" : Str), ((eO eI) st1))) (c_t (a_t t_c (a_t (vvF rfl) (a_n (show RvR (F (eP2 eS eD)) (.ok (("told" : Str), ((eO eI) st1))) _ from rfl))))))) trivial (fun _ => rfl) (fun _ => rfl)
theorem p__law_whole_ok (found : D) : RvR (F eB) (p__law_whole found) (run__law_whole [(F eD) found]).v := by
  unfold p__law_whole
  show RvR _ _ (fin 1 ws__law_whole (sem__law_whole [some ((F eD) found)])).v
  refine fn_okN ?_
  unfold sem__law_whole
  exact j_ret (s := (F eB)) (mv_and (mb_v (g_1 (vvF rfl) g_isD)) (mv_b (mb_not (mb_v (g_1 (vvF rfl) g_isD))))) trivial (fun _ => rfl) (fun _ => rfl)
theorem p__law_right_ok (text_here : Str) : RvR (F eB) (p__law_right text_here) (run__law_right [(F eS) text_here]).v := by
  unfold p__law_right
  show RvR _ _ (fin 1 ws__law_right (sem__law_right [some ((F eS) text_here), none, none])).v
  refine fn_okN ?_
  unfold sem__law_right
  refine j_asg (s := (F eI)) (c_f (a_t (vvF rfl) (a_n (p__law_due_ok text_here)))) (fun _ => rfl) trivial (fun due_here => ?_)
  refine j_asg (s := (F (eP2 eS eD))) (c_f (a_t (vvF rfl) (a_n (p__law_asked_ok text_here)))) (fun _ => rfl) trivial (fun found => ?_)
  refine j_if1 (tb_v (t_2 (vvF rfl) t_c t_lt)) ?_ ?_
  · exact j_ret (s := (F eB)) (mv_and (rb_ok (tb_v (t_2 (t_2 (vvF rfl) t_c (show idxT ((F (eP2 eS eD)) found) (F eI 0) = some ((F eS) found.1) from rfl)) t_c t_eqS))) (mv_and (mb_v (g_1 (t_2 (vvF rfl) t_c (show idxT ((F (eP2 eS eD)) found) (F eI 1) = some ((F eD) found.2) from rfl)) g_isD)) (g_2 (t_2 (vvF rfl) t_c (show idxT ((F (eP2 eS eD)) found) (F eI 1) = some ((F eD) found.2) from rfl)) (vvF rfl) g_eqD))) trivial (fun _ => rfl) (fun _ => rfl)
  · refine j_nx ?_
    exact j_ret (s := (F eB)) (mv_and (rb_ok (tb_v (t_2 (t_2 (vvF rfl) t_c (show idxT ((F (eP2 eS eD)) found) (F eI 0) = some ((F eS) found.1) from rfl)) t_c t_eqS))) (mv_and (mb_v (c_f (a_t (t_2 (vvF rfl) t_c (show idxT ((F (eP2 eS eD)) found) (F eI 1) = some ((F eD) found.2) from rfl)) (a_n (p__law_whole_ok found.2))))) (g_2 (t_2 (vvF rfl) t_c (show idxT ((F (eP2 eS eD)) found) (F eI 1) = some ((F eD) found.2) from rfl)) (vvF rfl) g_eqD))) trivial (fun _ => rfl) (fun _ => rfl)
theorem p_law_ok (script : (List Int)) : RvR (F eB) (p_law script) (run_law [scr script]).v := by
  unfold p_law
  show RvR _ _ (fin 1 ws_law (sem_law [some (scr script), none, none, none, none])).v
  refine fn_okN ?_
  unfold sem_law
  refine j_asg (s := (OL (F eI))) (g_2 (t_s (vvF rfl) oo_n (oo_s t_c) t_slScr) (ok_rv (s := (OL (F eI))) (a := [0, 0]) (c_l (a_t t_c (a_t t_c (a_n (show RvR (OL (F eI)) (.ok [0, 0]) _ from rfl)))))) (g_cat rdO rdO)) (fun _ => (nlOL fun _ => rfl)) trivial (fun cells => ?_)
  refine j_asg (s := (OL (F eS))) ?_ (fun _ => (nlOL fun _ => rfl)) trivial (fun texts => ?_)
  · exact (rv_ok (ok_rv (s := (OL (F eS))) (a := [("" : Str)]) (c_l (a_t t_c (a_n (show RvR (OL (F eS)) (.ok [("" : Str)]) _ from rfl))))))
  refine j_for (s := (F eI)) (fb := (fun it st => pb_law_0 cells it st)) (y0 := texts) (fun (st : (List Str)) (en : En) => ∃ o3 : Option T, en = [some (scr script), some ((OL (F eI)) cells), some ((OL (F eS)) st), o3, none]) (g_rng (t_2 (t_1 (vv rfl (lkOL fun _ => rfl)) (t_len rdLk)) t_c (t_fdiv (by decide)))) trivial ⟨_, rfl⟩ ?_ ?_
  · rintro k_ texts _ ⟨o3, rfl⟩
    refine ⟨_, rfl, ?_⟩
    unfold lb_law_0 pb_law_0
    refine j_last ?_
    refine j_app (s := (F eS)) rfl (c_f (a_m (g_2 (vv rfl (lkOL fun _ => rfl)) (t_2 t_c (vvF rfl) (t_mul (mulC_l (by decide)))) (g_idx rdLk)) fun t2 => (a_m (g_2 (vv rfl (lkOL fun _ => rfl)) (t_2 (t_2 t_c (vvF rfl) (t_mul (mulC_l (by decide)))) t_c t_add) (g_idx rdLk)) fun t3 => (a_n (p__law_text_ok t2 t3))))) (fun _ => rfl) trivial (fun texts => ?_)
    exact j_end ⟨_, rfl⟩
  · rintro st1 _ ⟨o3, rfl⟩
    unfold tl_law_1
    refine j_fz (u := (F (eL eS) st1)) rfl (nlOL fun _ => rfl) (Tf (eraOL fun _ => rfl)) ?_
    refine j_for (s := (F eS)) (fb := (fun it st => pb_law_1 it )) (y0 := ()) (fun (st : Unit) (en : En) => ∃ o3 o4 : Option T, en = [some (scr script), some ((OL (F eI)) cells), some ((F (eL eS)) st1), o3, o4]) (m_seq (m_2b (vhF rfl) (c_l (a_m (g_2 (vhF rfl) t_c (g_idx rdF)) fun t4 => (a_n (show RvR (OL (F eS)) (.ok [t4]) _ from rfl)))) fun t5 ht5 => (g_2 (vhF rfl) ht5 (g_cat rdF rdO))) rdO fun _ => rfl) trivial ⟨_, _, rfl⟩ ?_ ?_
    · rintro text_here _ _ ⟨o3, o4, rfl⟩
      refine ⟨_, rfl, ?_⟩
      unfold lb_law_1 pb_law_1
      refine j_tm' (mb_not (mb_v (c_f (a_t (vvF rfl) (a_n (p__law_right_ok text_here)))))) trivial (fun b7 hb7 => ?_)
      refine j_if hb7 ?_ ?_
      · exact j_ret (s := (F eB)) (rv_ok t_c) trivial (fun _ => rfl) (fun _ => rfl)
      · exact j_end ⟨_, _, rfl⟩
    · rintro _ _ ⟨o3, o4, rfl⟩
      unfold tl_law_0
      exact j_ret (s := (F eB)) (rv_ok t_c) trivial (fun _ => rfl) (fun _ => rfl)
theorem law_true_of {ns : List Int} (h : p_law ns = .ok true) : (run_law [scr ns]).v = .ok (.b true) := by
  have z := p_law_ok ns
  rw [h] at z
  exact z
end Lw
namespace Lw
open PySem L2 DT
/-! ### texts as lists -/
abbrev S (l : List Nat) : Str := ⟨l.toArray⟩
theorem S_tl {x : Str} : S x.cps.toList = x := by
  show (⟨x.cps.toList.toArray⟩ : Str) = x
  rw [Array.toArray_toList]
theorem S_len {l : List Nat} : (S l).length = l.length := by simp [S, Str.length]
theorem S_cps {l : List Nat} : (S l).cps.toList = l := rfl
theorem S_app {l r : List Nat} : S l ++ S r = S (l ++ r) := by
  show (⟨l.toArray ++ r.toArray⟩ : Str) = ⟨(l ++ r).toArray⟩
  congr 1
  simp
theorem S_inj {l r : List Nat} : S l = S r ↔ l = r := by
  constructor
  · intro h
    have := congrArg (fun x : Str => x.cps.toList) h
    exact this
  · rintro rfl; rfl
def figB (c : Nat) : Bool := decide (48 ≤ c ∧ c ≤ 57)
theorem in_figs {c : Nat} : inSG (sg c) "0123456789" = .ok (figB c) := by
  have e : ("0123456789" : Str).cps.toList = [48, 49, 50, 51, 52, 53, 54, 55, 56, 57] := by decide +kernel
  show M.ok (decide (c ∈ ("0123456789" : Str).cps.toList)) = _
  rw [e]
  congr 1
  unfold figB
  rw [decide_eq_decide]
  simp only [List.mem_cons, List.not_mem_nil, or_false]
  omega
theorem forO_first {α ρ : Type} {f : α → Unit → O Unit Unit ρ} {q : α → Bool} {r : ρ} : ∀ {xs : List α}, (∀ a ∈ xs, f a () = if q a = true then .nx () else .rt r) → forO (β := Empty) f xs () = if xs.all q = true then .nx () else .rt r
  | [], _ => rfl
  | a :: as, h => by
    have h1 := h a List.mem_cons_self
    unfold forO
    rw [h1, List.all_cons]
    cases e : q a with
    | true =>
      rw [if_pos rfl]
      dsimp only
      rw [forO_first fun b hb => h b (List.mem_cons_of_mem _ hb)]
      rfl
    | false =>
      rw [if_neg Bool.false_ne_true]
      rfl
theorem chars_all {l : List Nat} {q : Str → Bool} {p : Nat → Bool} (h : ∀ c, q (sg c) = p c) : (chars (S l)).all q = l.all p := by
  show (l.map sg).all q = _
  rw [List.all_map]
  congr 1
  funext c
  exact h c
theorem only_ok {l : List Nat} : p_only_figures (S l) = .ok (l.all figB) := by
  unfold p_only_figures
  rw [forO_first (q := fun z => match inSG z "0123456789" with | .ok b => b | _ => false) (r := false) (fun a ha => ?_)]
  · rw [chars_all (p := figB) fun c => by rw [in_figs]]
    cases l.all figB <;> rfl
  · obtain ⟨c, _, rfl⟩ := List.mem_map.mp ha
    show pb_only_figures_0 (sg c) = _
    unfold pb_only_figures_0
    rw [in_figs]
    cases figB c <;> rfl
theorem due_loop {l : List Nat} : forO (β := Empty) (fun it st => pb__law_due_0 it) (chars (S l)) () = if l.all figB = true then .nx () else .rt (-1) := by
  rw [forO_first (q := fun z => match inSG z "0123456789" with | .ok b => b | _ => false) (r := -1) (fun a ha => ?_)]
  · rw [chars_all (p := figB) fun c => by rw [in_figs]]
  · obtain ⟨c, _, rfl⟩ := List.mem_map.mp ha
    show pb__law_due_0 (sg c) = _
    unfold pb__law_due_0
    rw [in_figs]
    cases figB c <;> rfl
/-! ### slices -/
theorem cut_S {l : List Nat} {lo hi : Option Int} : cutS (S l) lo hi = S ((l.drop (HT.sIx l.length 0 lo)).take (HT.sIx l.length l.length hi - HT.sIx l.length 0 lo)) := by
  unfold cutS
  rw [S_len]
theorem sl_ok {l : List Nat} {lo hi : Option Int} (h : l.length ≤ 16777216) : slSG (S l) lo hi = .ok (S ((l.drop (HT.sIx l.length 0 lo)).take (HT.sIx l.length l.length hi - HT.sIx l.length 0 lo))) := by
  unfold slSG
  rw [gd_ok (by rw [S_len]; exact h), cut_S]
theorem len_ok {l : List Nat} (h : l.length ≤ 16777216) : lenSG (S l) = .ok (l.length : Int) := by
  unfold lenSG
  rw [gd_ok (by rw [S_len]; exact h), S_len]
theorem at_ok {l : List Nat} {i : Int} {k c : Nat} (h : l.length ≤ 16777216) (hk : ixN l.length i = some k) (hc : l[k]? = some c) : idxSG (S l) i = .ok (sg c) := by
  unfold idxSG
  rw [if_pos (by rw [S_len]; exact h)]
  have e : atI (S l).cps.toList i = some c := by
    unfold atI
    rw [show (S l).cps.toList = l from rfl, hk]
    exact hc
  rw [e]
  rfl
theorem add_ok {l r : List Nat} (h : l.length + r.length ≤ 16777216) : addSG (S l) (S r) = .ok (S (l ++ r)) := by
  unfold addSG
  rw [gd_ok (by rw [S_len, S_len]; exact h), S_app]
theorem figs_of {l : List Nat} (h : l.all figB = true) : NumText.AllDigits l := fun c hc => of_decide_eq_true (List.all_eq_true.mp h c hc)
theorem int_ok {l : List Nat} (h : l.all figB = true) (h1 : l ≠ []) (h2 : l.length ≤ 640) : intSG (S l) = .ok ((NumText.digitsVal l : Nat) : Int) := by
  unfold intSG
  rw [if_pos (by rw [S_len]; exact h2), intText_digits (x := S l) (figs_of h) h1 (by rw [S_len]; omega)]
  rfl
theorem sg_S {c : Nat} : sg c = S [c] := rfl
theorem lit_pt : (".": Str) = S [46] := by decide +kernel
theorem lit_co : (":": Str) = S [58] := by decide +kernel
theorem lit_0 : ("0": Str) = S [48] := by decide +kernel
theorem lit_e : ("": Str) = S [] := by decide +kernel
theorem sg_eq {c d : Nat} : decide (sg c = S [d]) = decide (c = d) := by
  rw [decide_eq_decide, sg_S, S_inj]
  simp
theorem sIx_neg {n d : Nat} {v : Int} (h : v < 0) : HT.sIx n d (some v) = (v + (n : Int)).toNat := by
  show (if v < 0 then _ else _) = _
  rw [if_pos h]
/-! ### what both tell -/
def val (l : List Nat) : Int := ((NumText.digitsVal l : Nat) : Int)
def badH (h a b : List Nat) : Bool := ((decide (h[0]? = some 48) && decide (1 < h.length)) || (decide (23 < val a) || decide (59 < val b))) || decide (1000000000 < val h * 1440 + val a * 60 + val b)
abbrev bt (l : List Nat) : Ex := mkX "BadTime" [("text", 0)] [eS (S l)]
theorem read_ok {h : List Nat} {c1 a1 a2 c2 b1 b2 : Nat} (h1 : 1 ≤ h.length) (h6 : h.length ≤ 6) :
    p_read (S (h ++ [c1, a1, a2, c2, b1, b2])) = if c1 = 46 ∧ c2 = 58 ∧ (h ++ [a1, a2] ++ [b1, b2]).all figB = true ∧ badH h [a1, a2] [b1, b2] = false then .ok (val h * 1440 + val [a1, a2] * 60 + val [b1, b2]) else .ex (bt (h ++ [c1, a1, a2, c2, b1, b2])) := by
  generalize hm : h.length = m at *
  have hl : (h ++ [c1, a1, a2, c2, b1, b2]).length = m + 6 := by simp [hm]
  unfold p_read
  have L : lenSG (S (h ++ [c1, a1, a2, c2, b1, b2])) = .ok ((m + 6 : Nat) : Int) := by rw [len_ok (by omega), hl]
  have s1 : slSG (S (h ++ [c1, a1, a2, c2, b1, b2])) none (some (-6)) = .ok (S h) := by
    rw [sl_ok (by omega), hl]
    have e1 : HT.sIx (m + 6) (m + 6) (some (-6)) = m := by
      rw [sIx_neg (by decide)]
      omega
    rw [e1, HT.sIx_none, Nat.sub_zero, List.drop_zero, ← hm, List.take_left']
    rfl
  have s2 : slSG (S (h ++ [c1, a1, a2, c2, b1, b2])) (some (-5)) (some (-3)) = .ok (S [a1, a2]) := by
    rw [sl_ok (by omega), hl]
    have e1 : HT.sIx (m + 6) 0 (some (-5)) = m + 1 := by
      rw [sIx_neg (by decide)]
      omega
    have e2 : HT.sIx (m + 6) (m + 6) (some (-3)) = m + 3 := by
      rw [sIx_neg (by decide)]
      omega
    rw [e1, e2, List.drop_append, List.drop_eq_nil_of_le (by omega), hm, show m + 1 - m = 1 by omega, show m + 3 - (m + 1) = 2 by omega]
    rfl
  have s3 : slSG (S (h ++ [c1, a1, a2, c2, b1, b2])) (some (-2)) none = .ok (S [b1, b2]) := by
    rw [sl_ok (by omega), hl]
    have e1 : HT.sIx (m + 6) 0 (some (-2)) = m + 4 := by
      rw [sIx_neg (by decide)]
      omega
    rw [e1, HT.sIx_none, List.drop_append, List.drop_eq_nil_of_le (by omega), hm, show m + 4 - m = 4 by omega, show m + 6 - (m + 4) = 2 by omega]
    rfl
  have i6 : idxSG (S (h ++ [c1, a1, a2, c2, b1, b2])) (-6) = .ok (sg c1) := at_ok (k := m) (by omega) (by rw [hl]; unfold ixN; rw [if_neg (by decide), if_pos (by omega)]; congr 1; omega) (by rw [List.getElem?_append_right (by omega), hm, Nat.sub_self]; rfl)
  have i3 : idxSG (S (h ++ [c1, a1, a2, c2, b1, b2])) (-3) = .ok (sg c2) := at_ok (k := m + 3) (by omega) (by rw [hl]; unfold ixN; rw [if_neg (by decide), if_pos (by omega)]; congr 1; omega) (by rw [List.getElem?_append_right (by omega), hm, show m + 3 - m = 3 by omega]; rfl)
  have p1 : addSG (S h) (S [a1, a2]) = .ok (S (h ++ [a1, a2])) := add_ok (by simp; omega)
  have p2 : addSG (S (h ++ [a1, a2])) (S [b1, b2]) = .ok (S (h ++ [a1, a2] ++ [b1, b2])) := add_ok (by simp; omega)
  rw [L]
  simp only [Mb_ok]
  rw [decide_eq_false (show ¬ ((m + 6 : Nat) : Int) < 7 by omega), decide_eq_false (show ¬ (12 : Int) < ((m + 6 : Nat) : Int) by omega)]
  simp only [Mor_f, Ob_ok, Bool.false_eq_true, if_false]
  rw [s1, s2, s3]
  simp only [Ob_ok]
  rw [i6, i3, p1]
  simp only [Mb_ok]
  rw [p2]
  simp only [Mb_ok]
  rw [only_ok, lit_pt, lit_co, sg_eq, sg_eq]
  simp only [Mb_ok]
  by_cases t1 : c1 = 46
  · by_cases t2 : c2 = 58
    · by_cases t3 : (h ++ [a1, a2] ++ [b1, b2]).all figB = true
      · rw [decide_eq_true t1, decide_eq_true t2, t3]
        simp only [Bool.not_true, Mor_f, Ob_ok, Bool.false_eq_true, if_false]
        rw [List.all_append, List.all_append, Bool.and_eq_true, Bool.and_eq_true] at t3
        obtain ⟨⟨f1, f2⟩, f3⟩ := t3
        have hne : h ≠ [] := fun z => by rw [z] at hm; simp at hm; omega
        obtain ⟨d, hd⟩ : ∃ d, h[0]? = some d := ⟨h[0]'(by omega), List.getElem?_eq_getElem (by omega)⟩
        have i0 : idxSG (S h) 0 = .ok (sg d) := at_ok (k := 0) (by omega) (by unfold ixN; rw [if_pos (by decide), if_pos (by omega)]; rfl) hd
        rw [i0, len_ok (by omega), int_ok f2 (by simp) (by simp), int_ok f3 (by simp) (by simp), int_ok f1 hne (by omega), lit_0]
        simp only [Mb_ok, sg_eq]
        have hb : badH h [a1, a2] [b1, b2] = (((decide (d = 48) && decide (1 < (h.length : Int))) || (decide (23 < val [a1, a2]) || decide (59 < val [b1, b2]))) || decide (1000000000 < val h * 1440 + val [a1, a2] * 60 + val [b1, b2])) := by
          unfold badH
          rw [hd]
          congr 3
          · rw [decide_eq_decide]; simp
          · rw [decide_eq_decide]; omega
        rw [hb]
        change fnO 0 (O.bind (M.or (M.and (.ok (decide (d = 48))) (.ok (decide (1 < (h.length : Int))))) (M.or (.ok (decide (23 < val [a1, a2]))) (.ok (decide (59 < val [b1, b2]))))) fun b13 => if b13 = true then .ex (bt (h ++ [c1, a1, a2, c2, b1, b2])) else O.bind (.ok (val h * 1440 + val [a1, a2] * 60 + val [b1, b2])) fun minute => if decide (1000000000 < minute) = true then .ex (bt (h ++ [c1, a1, a2, c2, b1, b2])) else .rt minute) = _
        generalize val h * 1440 + val [a1, a2] * 60 + val [b1, b2] = v
        generalize val [a1, a2] = va
        generalize val [b1, b2] = vb
        generalize decide (d = 48) = q1
        generalize decide (1 < (h.length : Int)) = q2
        generalize decide (23 < va) = q3
        generalize decide (59 < vb) = q4
        have t3' : (h ++ [a1, a2] ++ [b1, b2]).all figB = true := by rw [List.all_append, List.all_append, f1, f2, f3]; rfl
        simp only [t1, t2, t3', true_and]
        by_cases q5 : 1000000000 < v
        · rw [decide_eq_true q5]
          cases q1 <;> cases q2 <;> cases q3 <;> cases q4 <;> simp [M.or, M.and, O.bind, M.bind, fnO, q5]
        · rw [decide_eq_false q5]
          cases q1 <;> cases q2 <;> cases q3 <;> cases q4 <;> simp [M.or, M.and, O.bind, M.bind, fnO, q5]
      · rw [decide_eq_true t1, decide_eq_true t2, Bool.eq_false_iff.mpr t3, if_neg (fun z => Bool.false_ne_true z.2.2.1)]
        rfl
    · rw [decide_eq_true t1, decide_eq_false t2, if_neg (fun z => t2 z.2.1)]
      rfl
  · rw [decide_eq_false t1, if_neg (fun z => t1 z.1)]
    rfl
theorem read_len {l : List Nat} (hl : l.length ≤ 16777216) (h : l.length < 7 ∨ 12 < l.length) : p_read (S l) = .ex (bt l) := by
  unfold p_read
  rw [len_ok hl]
  simp only [Mb_ok]
  rcases h with h | h
  · rw [decide_eq_true (show (l.length : Int) < 7 by omega)]
    rfl
  · rw [decide_eq_false (show ¬ (l.length : Int) < 7 by omega), decide_eq_true (show (12 : Int) < (l.length : Int) by omega)]
    rfl
/-! ### what the law reads -/
theorem part_pt {h r : List Nat} (h46 : 46 ∉ h) (hl : h.length + r.length + 1 ≤ 16777216) : partG (S (h ++ 46 :: r)) "." = .ok (S h, ".", S r) := by
  unfold partG
  have e : S (h ++ 46 :: r) = S h ++ "." ++ S r := by
    rw [lit_pt, S_app, S_app]
    simp
  have ey : TL.tl "." = 46 :: [] := by decide +kernel
  rw [gd_ok ⟨by decide +kernel, by rw [S_len]; simp; show _ ≤ LINE; unfold LINE; omega⟩, e, TL.partition_app ey (a := S h) h46]
theorem part_no {l : List Nat} (h46 : 46 ∉ l) (hl : l.length ≤ 16777216) : partG (S l) "." = .ok (S l, Str.empty, Str.empty) := by
  unfold partG
  have ey : TL.tl "." = 46 :: [] := by decide +kernel
  rw [gd_ok ⟨by decide +kernel, by rw [S_len]; exact hl⟩, TL.partition_none ey (a := S l) h46]
theorem due_none {l : List Nat} (h46 : 46 ∉ l) (hl : l.length ≤ 16777216) : p__law_due (S l) = .ok (-1) := by
  unfold p__law_due
  rw [part_no h46 hl]
  have e : decide (Str.empty = ("" : Str)) = true := by decide +kernel
  simp only [Ob_ok]
  rw [e]
  rfl
theorem pt_ne : decide ((".": Str) = ("" : Str)) = false := by decide +kernel
theorem due_n5 {h r : List Nat} (h46 : 46 ∉ h) (hl : h.length + r.length + 1 ≤ 16777216) (h5 : r.length ≠ 5) : p__law_due (S (h ++ 46 :: r)) = .ok (-1) := by
  unfold p__law_due
  rw [part_pt h46 hl]
  simp only [Ob_ok]
  rw [pt_ne, len_ok (l := r) (by omega)]
  simp only [Mb_ok]
  rw [decide_eq_false (show ¬ ((r.length : Int) = 5) by omega)]
  rfl
theorem due_5 {h : List Nat} {a1 a2 c2 b1 b2 : Nat} (h46 : 46 ∉ h) (hl : h.length + 6 ≤ 16777216) : p__law_due (S (h ++ 46 :: [a1, a2, c2, b1, b2])) =
    .ok (if c2 = 58 ∧ (1 ≤ h.length ∧ h.length ≤ 6) ∧ (h ++ [a1, a2] ++ [b1, b2]).all figB = true ∧ badH h [a1, a2] [b1, b2] = false then val h * 1440 + val [a1, a2] * 60 + val [b1, b2] else -1) := by
  unfold p__law_due
  rw [part_pt h46 (by simp; omega)]
  simp only [Ob_ok]
  have s1 : slSG (S [a1, a2, c2, b1, b2]) none (some 2) = .ok (S [a1, a2]) := by rw [sl_ok (by simp)]; rfl
  have s2 : slSG (S [a1, a2, c2, b1, b2]) (some 3) none = .ok (S [b1, b2]) := by rw [sl_ok (by simp)]; rfl
  have i2 : idxSG (S [a1, a2, c2, b1, b2]) 2 = .ok (sg c2) := at_ok (k := 2) (by simp) rfl rfl
  have p1 : addSG (S h) (S [a1, a2]) = .ok (S (h ++ [a1, a2])) := add_ok (by simp; omega)
  have p2 : addSG (S (h ++ [a1, a2])) (S [b1, b2]) = .ok (S (h ++ [a1, a2] ++ [b1, b2])) := add_ok (by simp; omega)
  rw [pt_ne, len_ok (l := [a1, a2, c2, b1, b2]) (by simp), len_ok (l := h) (by omega), i2, s1, s2, lit_co]
  simp only [Mb_ok, sg_eq]
  rw [p1]
  simp only [Mb_ok]
  rw [p2]
  simp only [Mb_ok, Ob_ok]
  rw [due_loop]
  have q0 : decide ((([a1, a2, c2, b1, b2] : List Nat).length : Int) = 5) = true := decide_eq_true (by simp)
  rw [q0]
  by_cases t2 : c2 = 58
  · by_cases t4 : 1 ≤ h.length ∧ h.length ≤ 6
    · rw [decide_eq_true t2, decide_eq_false (show ¬ ((h.length : Int) < 1) by omega), decide_eq_false (show ¬ ((6 : Int) < h.length) by omega)]
      by_cases t3 : (h ++ [a1, a2] ++ [b1, b2]).all figB = true
      · have t3' := t3
        rw [List.all_append, List.all_append, Bool.and_eq_true, Bool.and_eq_true] at t3
        obtain ⟨⟨f1, f2⟩, f3⟩ := t3
        have hne : h ≠ [] := fun z => by rw [z] at t4; simp at t4
        obtain ⟨d, hd⟩ : ∃ d, h[0]? = some d := ⟨h[0]'(by omega), List.getElem?_eq_getElem (by omega)⟩
        have i0 : idxSG (S h) 0 = .ok (sg d) := at_ok (k := 0) (by omega) (by unfold ixN; rw [if_pos (by decide), if_pos (by omega)]; rfl) hd
        rw [i0, int_ok f2 (by simp) (by simp), int_ok f3 (by simp) (by simp), int_ok f1 hne (by omega), lit_0]
        simp only [Mb_ok, sg_eq]
        rw [if_pos t3']
        have hb : badH h [a1, a2] [b1, b2] = (((decide (d = 48) && decide (1 < (h.length : Int))) || (decide (23 < val [a1, a2]) || decide (59 < val [b1, b2]))) || decide (1000000000 < val h * 1440 + val [a1, a2] * 60 + val [b1, b2])) := by
          unfold badH
          rw [hd]
          congr 3
          · rw [decide_eq_decide]; simp
          · rw [decide_eq_decide]; omega
        rw [hb]
        have p9 : ((10 : Int) ^ 9) = 1000000000 := by decide
        rw [p9]
        change fnO 0 (O.bind (M.or (M.and (.ok (decide (1 < (h.length : Int)))) (.ok (decide (d = 48)))) (M.or (.ok (decide (23 < val [a1, a2]))) (.ok (decide (59 < val [b1, b2]))))) fun b18 => if b18 = true then .rt (-1) else O.bind (.ok (1440 * val h + 60 * val [a1, a2] + val [b1, b2])) fun found => if decide (1000000000 < found) = true then .rt (-1) else .rt found) = _
        rw [show 1440 * val h + 60 * val [a1, a2] + val [b1, b2] = val h * 1440 + val [a1, a2] * 60 + val [b1, b2] by omega]
        simp only [t2, t4, t3', true_and]
        generalize val h * 1440 + val [a1, a2] * 60 + val [b1, b2] = v
        generalize val [a1, a2] = va
        generalize val [b1, b2] = vb
        generalize decide (d = 48) = q1
        generalize decide (1 < (h.length : Int)) = q2
        generalize decide (23 < va) = q3
        generalize decide (59 < vb) = q4
        by_cases q5 : 1000000000 < v
        · rw [decide_eq_true q5]
          cases q1 <;> cases q2 <;> cases q3 <;> cases q4 <;> simp [M.or, M.and, O.bind, M.bind, fnO, q5]
        · rw [decide_eq_false q5]
          cases q1 <;> cases q2 <;> cases q3 <;> cases q4 <;> simp [M.or, M.and, O.bind, M.bind, fnO, q5]
      · have rhs : (if c2 = 58 ∧ (1 ≤ h.length ∧ h.length ≤ 6) ∧ (h ++ [a1, a2] ++ [b1, b2]).all figB = true ∧ badH h [a1, a2] [b1, b2] = false then val h * 1440 + val [a1, a2] * 60 + val [b1, b2] else -1) = -1 := if_neg (fun z => t3 z.2.2.1)
        rw [rhs, if_neg t3]
        rfl
    · have rhs : (if c2 = 58 ∧ (1 ≤ h.length ∧ h.length ≤ 6) ∧ (h ++ [a1, a2] ++ [b1, b2]).all figB = true ∧ badH h [a1, a2] [b1, b2] = false then val h * 1440 + val [a1, a2] * 60 + val [b1, b2] else -1) = -1 := if_neg (fun z => t4 z.2.1)
      rw [rhs, decide_eq_true t2]
      by_cases t5 : h.length < 1
      · rw [decide_eq_true (show ((h.length : Int) < 1) by omega)]
        rfl
      · rw [decide_eq_false (show ¬ ((h.length : Int) < 1) by omega), decide_eq_true (show ((6 : Int) < h.length) by omega)]
        rfl
  · have rhs : (if c2 = 58 ∧ (1 ≤ h.length ∧ h.length ≤ 6) ∧ (h ++ [a1, a2] ++ [b1, b2]).all figB = true ∧ badH h [a1, a2] [b1, b2] = false then val h * 1440 + val [a1, a2] * 60 + val [b1, b2] else -1) = -1 := if_neg (fun z => t2 z.1)
    rw [rhs, decide_eq_false t2]
    rfl
/-! ### the two agree -/
theorem right_pos {l : List Nat} {v : Int} (h0 : 0 ≤ v) (hr : p_read (S l) = .ok v) (hd : p__law_due (S l) = .ok v) : p__law_right (S l) = .ok true := by
  unfold p__law_right p__law_asked
  rw [hd, hr]
  simp only [Ob_ok, Mb_ok]
  show fnO false (if decide (v < 0) = true then _ else O.bind (M.and (.ok true) (M.and (p__law_whole (eI v)) (eqDG (eI v) (eI v)))) .rt) = _
  rw [if_neg (by simpa using h0)]
  have e : eqDG (eI v) (eI v) = .ok true := by
    unfold eqDG
    rw [show eqT (.f (eI v)) (.f (eI v)) = _ from eqT_i, decide_eq_true rfl]
    rfl
  rw [e]
  rfl
theorem right_neg {l : List Nat} (hr : p_read (S l) = .ex (bt l)) (hd : p__law_due (S l) = .ok (-1)) : p__law_right (S l) = .ok true := by
  unfold p__law_right p__law_asked
  rw [hd, hr]
  simp only [Ob_ok, Mb_ex]
  have e : eqDG (eS (S l)) (eS (S l)) = .ok true := by
    unfold eqDG
    rw [show eqT (.f (eS (S l))) (.f (eS (S l))) = _ from eqT_s, decide_eq_true rfl]
    rfl
  show fnO false (O.bind (M.and (.ok true) (M.and (.ok true) (eqDG (eS (S l)) (eS (S l))))) .rt) = _
  rw [e]
  rfl
theorem right_ok {l : List Nat} (hl : l.length ≤ 16777216) : p__law_right (S l) = .ok true := by
  have val0 : ∀ x, 0 ≤ val x := fun x => Int.natCast_nonneg _
  by_cases g : ∃ (h : List Nat) (a1 a2 b1 b2 : Nat), l = h ++ [46, a1, a2, 58, b1, b2] ∧ (1 ≤ h.length ∧ h.length ≤ 6) ∧ (h ++ [a1, a2] ++ [b1, b2]).all figB = true ∧ badH h [a1, a2] [b1, b2] = false
  · obtain ⟨h, a1, a2, b1, b2, rfl, hh, hf, hb⟩ := g
    have r := read_ok (h := h) (c1 := 46) (a1 := a1) (a2 := a2) (c2 := 58) (b1 := b1) (b2 := b2) hh.1 hh.2
    rw [if_pos ⟨rfl, rfl, hf, hb⟩] at r
    have n46 : 46 ∉ h := fun z => by
      have f := hf
      rw [List.all_append, List.all_append, Bool.and_eq_true, Bool.and_eq_true] at f
      have := List.all_eq_true.mp f.1.1 46 z
      cases this
    have d := due_5 (h := h) (a1 := a1) (a2 := a2) (c2 := 58) (b1 := b1) (b2 := b2) n46 (by simp at hl; omega)
    rw [if_pos ⟨rfl, hh, hf, hb⟩] at d
    exact right_pos (by have := val0 h; have := val0 [a1, a2]; have := val0 [b1, b2]; omega) r d
  · have r : p_read (S l) = .ex (bt l) := by
      by_cases hn : l.length < 7 ∨ 12 < l.length
      · exact read_len hl hn
      · have e : l = l.take (l.length - 6) ++ l.drop (l.length - 6) := (List.take_append_drop _ _).symm
        have l1 : (l.take (l.length - 6)).length = l.length - 6 := by rw [List.length_take]; omega
        have l2 : (l.drop (l.length - 6)).length = 6 := by rw [List.length_drop]; omega
        generalize l.take (l.length - 6) = h at *
        generalize l.drop (l.length - 6) = x at *
        match x, l2 with
        | [c1, a1, a2, c2, b1, b2], _ =>
          rw [e, read_ok (by omega) (by omega), if_neg]
          rintro ⟨rfl, rfl, hf, hb⟩
          exact g ⟨h, a1, a2, b1, b2, e, by omega, hf, hb⟩
    refine right_neg r ?_
    by_cases m : 46 ∈ l
    · obtain ⟨h, x, e, n46⟩ := List.eq_append_cons_of_mem m
      have ll : l.length = h.length + x.length + 1 := by rw [e]; simp; omega
      by_cases h5 : x.length = 5
      · match x, h5 with
        | [a1, a2, c2, b1, b2], _ =>
          rw [e, due_5 n46 (by simp at ll; omega), if_neg]
          rintro ⟨rfl, hh, hf, hb⟩
          exact g ⟨h, a1, a2, b1, b2, e, hh, hf, hb⟩
      · rw [e]
        exact due_n5 n46 (by omega) h5
    · exact due_none m hl
/-! ### the texts that are built -/
theorem str_b {n : Int} (h0 : 0 ≤ n) (h1 : n < 1000000000) : ∃ t, strG n = .ok t ∧ t.length ≤ 9 := by
  unfold strG
  have hl : n.natAbs.log2 < 1920 := by
    rcases Nat.eq_zero_or_pos n.natAbs with z | z
    · rw [z]; decide
    · have : n.natAbs < 2 ^ 30 := by
        have : (2 : Nat) ^ 30 = 1073741824 := by decide
        omega
      have := (Nat.log2_lt (by omega)).mpr this
      omega
  rw [gd_ok hl]
  refine ⟨_, rfl, PyProof.Rows.toString_length_le h0 (by decide) ?_⟩
  have : (10 : Int) ^ 9 = 1000000000 := by decide
  omega
theorem cat_len {x y : Str} : (x ++ y).length = x.length + y.length := PySem.Str.length_append ..
theorem add_b {x y : Str} (h : x.length + y.length ≤ 16777216) : addSG x y = .ok (x ++ y) := gd_ok h
theorem sl_b {x : Str} {lo hi : Option Int} (h : x.length ≤ 16777216) : ∃ t, slSG x lo hi = .ok t ∧ t.length ≤ x.length := ⟨cutS x lo hi, gd_ok h, L2.cutS_length x lo hi⟩
theorem len_pt : ((".": Str)).length = 1 := by decide +kernel
theorem len_co : ((":": Str)).length = 1 := by decide +kernel
theorem days_b {c : Int} : ∃ d, p__law_days c = .ok d ∧ 0 ≤ d ∧ d < 1000000000 := by
  unfold p__law_days
  rw [Ob_ok]
  have p8 : (10 : Int) ^ 8 = 100000000 := by decide
  rw [p8]
  generalize c % 1000000007 * 48271 % 65537 = w
  by_cases c0 : w % 4 = 0
  · rw [if_pos (decide_eq_true c0)]
    exact ⟨_, rfl, by omega, by omega⟩
  · rw [if_neg (by simpa using c0)]
    by_cases c1 : w % 4 = 1
    · rw [if_pos (decide_eq_true c1)]
      exact ⟨_, rfl, by omega, by omega⟩
    · rw [if_neg (by simpa using c1)]
      by_cases c2 : w % 4 = 2
      · rw [if_pos (decide_eq_true c2)]
        exact ⟨_, rfl, by omega, by omega⟩
      · rw [if_neg (by simpa using c2)]
        exact ⟨_, rfl, by omega, by omega⟩
theorem plain_b {c m : Int} : ∃ t, p__law_plain c m = .ok t ∧ 1 ≤ t.length ∧ t.length ≤ 40 := by
  unfold p__law_plain
  obtain ⟨d, e1, d0, d1⟩ := days_b (c := c)
  simp only [Ob_ok]
  generalize m % 1000000007 * 16807 % 65521 = w
  obtain ⟨x, e2, l2⟩ := str_b d0 d1
  obtain ⟨y, e3, l3⟩ := str_b (n := 100 + w % 26) (by omega) (by omega)
  obtain ⟨z, e4, l4⟩ := str_b (n := 100 + w / 26 % 62) (by omega) (by omega)
  obtain ⟨y', e5, l5⟩ := sl_b (x := y) (lo := some 1) (hi := none) (by omega)
  obtain ⟨z', e6, l6⟩ := sl_b (x := z) (lo := some 1) (hi := none) (by omega)
  rw [e1]
  simp only [Mb_ok]
  rw [e2, e3, e4]
  simp only [Mb_ok]
  rw [add_b (x := x) (y := ".") (by rw [len_pt]; omega), e5, e6]
  simp only [Mb_ok]
  rw [add_b (by rw [cat_len, len_pt]; omega)]
  simp only [Mb_ok]
  rw [add_b (by rw [cat_len, cat_len, len_pt, len_co]; omega)]
  simp only [Mb_ok]
  rw [add_b (by rw [cat_len, cat_len, cat_len, len_pt, len_co]; omega)]
  exact ⟨_, rfl, by rw [cat_len, cat_len, cat_len, cat_len, len_pt, len_co]; omega, by rw [cat_len, cat_len, cat_len, cat_len, len_pt, len_co]; omega⟩
theorem fold_len {a : Array Nat} : ∀ (k : Nat) (z : Array Nat), ((List.replicate k a).foldl (· ++ ·) z).size = z.size + a.size * k
  | 0, z => by simp
  | k + 1, z => by
    rw [List.replicate_succ, List.foldl_cons, fold_len k, Array.size_append, Nat.mul_succ]
    omega
theorem rep_b {x : Str} {n : Int} (h1 : x.length = 1) (h0 : 0 ≤ n) (h2 : n ≤ 1000) : ∃ t, repSG x n = .ok t ∧ t.length ≤ 1000 := by
  refine ⟨repS x n, repSG_ok ⟨by omega, by omega, by rw [h1]; omega⟩, ?_⟩
  show ((List.replicate n.toNat x.cps).foldl (· ++ ·) #[]).size ≤ 1000
  rw [fold_len, show x.cps.size = 1 from h1]
  show 0 + 1 * n.toNat ≤ 1000
  omega
theorem text_b {c m : Int} : ∃ t, p__law_text c m = .ok t ∧ t.length ≤ 3000 := by
  unfold p__law_text
  rw [Ob_ok]
  obtain ⟨x, e1, x1, x2⟩ := plain_b (c := c) (m := m)
  rw [e1]
  simp only [Ob_ok]
  generalize hw : m % 1000000007 * 48271 % 65497 = w
  have lx : lenSG x = .ok (x.length : Int) := gd_ok (by show _ ≤ LINE; unfold LINE; omega)
  have ls : lenSG "0123456789.: -+_aA" = .ok 18 := gd_ok (by decide)
  rw [lx, ls]
  simp only [Mb_ok]
  rw [show modG (c % 1000000007 * 69621 % 65479) (x.length : Int) = .ok (c % 1000000007 * 69621 % 65479 % (x.length : Int)) from gd_ok (by omega), show modG ((c + m) % 1000000007 * 16807 % 65449) 18 = .ok ((c + m) % 1000000007 * 16807 % 65449 % 18) from gd_ok (by decide)]
  simp only [Mb_ok, Ob_ok]
  generalize c % 1000000007 * 69621 % 65479 % (x.length : Int) = at_
  obtain ⟨sn, e2, _⟩ := idxSG_pos (x := "0123456789.: -+_aA") (i := (c + m) % 1000000007 * 16807 % 65449 % 18) (by decide) (by omega) (by show _ < (18 : Int); omega)
  rw [e2, Ob_ok]
  have lsn : (sg sn).length = 1 := rfl
  obtain ⟨u1, s1, v1⟩ := sl_b (x := x) (lo := none) (hi := some at_) (by omega)
  obtain ⟨u2, s2, v2⟩ := sl_b (x := x) (lo := some (at_ + 1)) (hi := none) (by omega)
  obtain ⟨u3, s3, v3⟩ := sl_b (x := x) (lo := some at_) (hi := none) (by omega)
  rw [s1, s2, s3]
  simp only [Mb_ok]
  rw [add_b (x := u1) (y := sg sn) (by omega)]
  simp only [Mb_ok]
  have two : ∀ {y z : Str}, y.length + z.length ≤ 3000 → ∃ t, fnO (ρ := Str) "" (O.bind (addSG y z) O.rt) = .ok t ∧ t.length ≤ 3000 := fun {y z} h => by
    rw [add_b (by omega)]
    exact ⟨_, rfl, by rw [cat_len]; exact h⟩
  have h4 : w / 12 % 4 = 0 ∨ w / 12 % 4 = 1 ∨ w / 12 % 4 = 2 ∨ w / 12 % 4 = 3 := by omega
  have n4 : 0 ≤ w / 12 % 4 * 100 + 1 ∧ w / 12 % 4 * 100 + 1 ≤ 1000 := by omega
  by_cases c0 : w % 12 = 0
  · rw [if_pos (decide_eq_true c0)]
    exact two (by rw [cat_len]; omega)
  rw [if_neg (by simpa using c0)]
  by_cases c1 : w % 12 = 1
  · rw [if_pos (decide_eq_true c1)]
    exact two (by rw [cat_len]; omega)
  rw [if_neg (by simpa using c1)]
  by_cases c2 : w % 12 = 2
  · rw [if_pos (decide_eq_true c2)]
    exact two (by omega)
  rw [if_neg (by simpa using c2)]
  by_cases c3 : w % 12 = 3
  · rw [if_pos (decide_eq_true c3)]
    obtain ⟨r, er, lr⟩ := rep_b (x := "0") (n := w / 12 % 4 * 100 + 1) (by decide +kernel) n4.1 n4.2
    rw [er]
    exact two (by omega)
  rw [if_neg (by simpa using c3)]
  by_cases c4 : w % 12 = 4
  · rw [if_pos (decide_eq_true c4)]
    obtain ⟨r, er, lr⟩ := rep_b (x := "9") (n := w / 12 % 4 * 100 + 1) (by decide +kernel) n4.1 n4.2
    rw [er]
    exact two (by omega)
  rw [if_neg (by simpa using c4)]
  by_cases c5 : w % 12 = 5
  · rw [if_pos (decide_eq_true c5)]
    obtain ⟨r, er, lr⟩ := rep_b (x := "0") (n := 300) (by decide +kernel) (by decide) (by decide)
    rw [er]
    simp only [Mb_ok]
    rcases h4 with q | q | q | q <;> rw [q]
    · rw [show idxG [("0" : Str), (" " : Str), ("\n" : Str), r] 0 = .ok "0" from rfl]
      exact two (by rw [show (("0" : Str)).length = 1 by decide +kernel]; omega)
    · rw [show idxG [("0" : Str), (" " : Str), ("\n" : Str), r] 1 = .ok " " from rfl]
      exact two (by rw [show ((" " : Str)).length = 1 by decide +kernel]; omega)
    · rw [show idxG [("0" : Str), (" " : Str), ("\n" : Str), r] 2 = .ok "\n" from rfl]
      exact two (by rw [show (("\n" : Str)).length = 1 by decide +kernel]; omega)
    · rw [show idxG [("0" : Str), (" " : Str), ("\n" : Str), r] 3 = .ok r from rfl]
      exact two (by omega)
  rw [if_neg (by simpa using c5)]
  by_cases c6 : w % 12 = 6
  · rw [if_pos (decide_eq_true c6)]
    rw [show replG "." ":" x = .ok (Txt.replace x "." ":") from gd_ok (by rw [len_co]; omega)]
    refine ⟨_, rfl, ?_⟩
    have := TK.replace_len x "." ":"
    rw [len_co] at this
    omega
  rw [if_neg (by simpa using c6)]
  by_cases c7 : w % 12 = 7
  · rw [if_pos (decide_eq_true c7)]
    obtain ⟨d, e3, d0, d1⟩ := days_b (c := c)
    obtain ⟨a, e4, l4⟩ := str_b d0 d1
    obtain ⟨b, e5, l5⟩ := str_b (n := w / 12 % 24) (by omega) (by omega)
    obtain ⟨b2, e6, l6⟩ := str_b (n := w / 288 % 60) (by omega) (by omega)
    rw [e3]
    simp only [Mb_ok]
    rw [e4, e5, e6]
    simp only [Mb_ok]
    rw [add_b (x := a) (y := ".") (by rw [len_pt]; omega)]
    simp only [Mb_ok]
    rw [add_b (by rw [cat_len, len_pt]; omega)]
    simp only [Mb_ok]
    rw [add_b (by rw [cat_len, cat_len, len_pt, len_co]; omega)]
    exact two (by rw [cat_len, cat_len, cat_len, len_pt, len_co]; omega)
  rw [if_neg (by simpa using c7)]
  exact ⟨x, rfl, by omega⟩
theorem law_true {ns : List Int} (hn : ns.length ≤ 63) : (run_law [scr ns]).v = .ok (.b true) := by
  apply law_true_of
  unfold p_law
  have hc : (cutT ns none (some 60)).length ≤ 63 := by
    unfold cutT
    rw [List.length_take, List.length_drop]
    omega
  rw [show catG (cutT ns none (some 60)) [0, 0] = .ok (cutT ns none (some 60) ++ [0, 0]) from gd_ok (by show _ ≤ LINE; unfold LINE; simp; omega), Ob_ok, Ob_ok]
  generalize hcc : cutT ns none (some 60) ++ [0, 0] = cells
  have hl : 2 ≤ cells.length ∧ cells.length ≤ 65 := by
    rw [← hcc, List.length_append]
    simp
    omega
  rw [rngG_up (by omega), Ob_ok]
  obtain ⟨st, es, hst⟩ := forO_pre (β := Empty) (f := fun it st => pb_law_0 cells it st) (fun zs st => st.length = 1 + zs.length ∧ ∀ t ∈ st, t.length ≤ 3000) (upI ((cells.length : Int) / 2).toNat) [] [("" : Str)] ⟨rfl, fun t ht => by
    rw [List.mem_singleton.mp ht, lit_e, S_len]
    simp⟩ (fun zs k rs st hk hi => by
      have hm : k ∈ upI ((cells.length : Int) / 2).toNat := by
        rw [List.nil_append] at hk
        rw [hk]
        simp
      have hz : zs.length < 65 := by
        have := congrArg List.length hk
        rw [List.nil_append, upI_len, List.length_append, List.length_cons] at this
        omega
      obtain ⟨k0, k1⟩ := mem_upI.mp hm
      obtain ⟨a, ea, _⟩ := idxG_pos (xs := cells) (i := 2 * k) (by omega) (by omega)
      obtain ⟨b, eb, _⟩ := idxG_pos (xs := cells) (i := 2 * k + 1) (by omega) (by omega)
      obtain ⟨t, et, lt⟩ := text_b (c := a) (m := b)
      refine ⟨st ++ [t], ?_, by rw [List.length_append, List.length_append, hi.1]; rfl, fun y hy => ?_⟩
      · show pb_law_0 cells k st = _
        unfold pb_law_0
        rw [ea, eb]
        simp only [Mb_ok]
        rw [et]
        simp only [Mb_ok]
        rw [show appG st t = .ok (st ++ [t]) from if_pos (by rw [hi.1]; show _ < LINE; unfold LINE; omega)]
        rfl
      · rcases List.mem_append.mp hy with y1 | y1
        · exact hi.2 y y1
        · rw [List.mem_singleton.mp y1]
          exact lt)
  rw [es, Os_nx]
  rw [List.nil_append, upI_len] at hst
  obtain ⟨t1, e1, m1⟩ := idxG_pos (xs := st) (i := 1) (by omega) (by omega)
  rw [e1]
  simp only [Mb_ok]
  rw [show catG st [t1] = .ok (st ++ [t1]) from gd_ok (by show _ ≤ LINE; unfold LINE; simp; omega), Ob_ok, forO_ask fun a ha => ?_]
  · rfl
  · have la : a.length ≤ 3000 := by
      rcases List.mem_append.mp ha with y1 | y1
      · exact hst.2 a y1
      · rw [List.mem_singleton.mp y1]
        exact hst.2 t1 (List.mem_of_getElem? m1)
    show pb_law_1 a = _
    unfold pb_law_1
    have r := right_ok (l := a.cps.toList) (by
      have : a.cps.toList.length = a.length := Array.length_toList
      omega)
    rw [S_tl] at r
    rw [r]
    rfl
end Lw
open PySem PySem.W PySem.Calls PyProof.Rows
set_option maxRecDepth 100000 in
set_option maxHeartbeats 8000000 in
theorem PySem.Challenge.cw_fleetpath_k14_clock_read_holds : PySem.Challenge.rw_fleetpath_k14_clock_read.Holds := by
  w_on; o_law
  refine HandSHeadRun.head_any (r := OpenLaw.row PySem.Challenge.rw_fleetpath_k14_clock_read) (q := view (OpenLaw.row PySem.Challenge.rw_fleetpath_k14_clock_read).prog [25]) (H := Lw.hk) (ob := Lw.ob) (M := 4000) (loose := Lw.loose) (d := HandSHeadRun.topDef (OpenLaw.row PySem.Challenge.rw_fleetpath_k14_clock_read).prog 25) (kwd := []) Lw.ob_eq
    (by kernel_rfl) (fun s => by kernel_rfl) Lw.run (by kernel_rfl) (by kernel_rfl) (by kernel_rfl) (by rfl) (by first | assumption | decide +kernel) (by decide +kernel) ⟨rfl, rfl, rfl, rfl, rfl, by decide +kernel⟩ ?hw ?hc
  case hw => w_witness2
  case hc =>
    refine L2.walk_ofE (l := PySem.Challenge.rw_fleetpath_k14_clock_read) (n := 63) (k := 6) (x := "_law_script") (CX := L2.CX0) rfl (by decide) (by kernel_rfl) ⟨rfl, by decide, by decide⟩ ?F (fun _ _ _ _ z => z)
    intro w mg fa h Y G hmg0
    obtain ⟨K, KX, c⟩ := Y
    have hmg : mg ("law" : PySem.Str) = some (.ref fa) := by
      have e : (HandSHeadRun.topDef (OpenLaw.row PySem.Challenge.rw_fleetpath_k14_clock_read).prog 25).name = ("law" : PySem.Str) := by kernel_rfl
      rw [← e]
      exact hmg0
    obtain ⟨fd, hb, hF⟩ := Lw.facts (P := (PySem.Challenge.rw_fleetpath_k14_clock_read).prog) (w := w) KX G hmg c
    exact ⟨K, fd, fun vs H Q _ => DT.spS ⟨K, []⟩ 1 Lw.run_law vs H Q fun _ _ _ => False, KX, hb, fun H a ns hl _ hS => DT.sp_law hS (Lw.law_true hl), fun base k1 k2 => DT.FnOk.top (hF base k1 k2)⟩
