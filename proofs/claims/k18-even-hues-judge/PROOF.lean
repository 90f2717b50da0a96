import PyProof.Rows.All
import Wide.All
import OpenK.AllK
import Wide.FinOn
import HandS.ForMost
import HandS.ForExc
import HandS.Defaults
import HandS.Walk
import HandS.IsInst
import HandS.SortInts
import HandS.TupAny
import HandS.Style
import HandS.Wide
import HandS.Iter
import HandS.Strs
import HandS.SetFor
import KE.GoesEnum
import HandS.SortOrd
import HandS.TupSets
import HandS.SetKeys
import HandS.Head0
import HandS.Head1
import HandS.Head2
import HandS.HeadEnd
import HandS.HeadHook1
import HandS.HeadHook2
import HandS.DictComp
import HandS.Zip
import HandS.Conv
import HandS.ListItems
import KE.KDictList
import PySem.Challenge.RW_sloweralone_k18_even_hues_judge
set_option Elab.async false
set_option linter.all false
set_option maxRecDepth 100000
set_option maxHeartbeats 2000000
/-! SLa: the typed layer, its core: outcomes, types of data, the state by slots, the judgements. -/
namespace SL
open PySem PySem.Spec PyProof.Rows L2

/-! ### errors, outcomes -/
structure Err where
  cls : Str
  fs : List (Str × PyData)
inductive Out (α : Type) where
  | ok (a : α) | err (x : Err) | stuck
def Out.bind {α β : Type} (m : Out α) (f : α → Out β) : Out β := match m with
  | .ok a => f a
  | .err x => .err x
  | .stuck => .stuck
instance : Monad Out where
  pure a := .ok a
  bind := Out.bind
theorem bind_ok {α β : Type} (a : α) (f : α → Out β) : (Out.ok a >>= f) = f a := rfl
theorem pure_b {α β : Type} (a : α) (f : α → Out β) : ((pure a : Out α) >>= f) = f a := rfl
theorem bind_stuck {α β : Type} (f : α → Out β) : ((Out.stuck : Out α) >>= f) = .stuck := rfl
theorem bind_err {α β : Type} (x : Err) (f : α → Out β) : ((Out.err x : Out α) >>= f) = .err x := rfl
theorem pure_ok {α : Type} (a : α) : (pure a : Out α) = .ok a := rfl
theorem bind_as {α β γ : Type} (m : Out α) (f : α → Out β) (g : β → Out γ) : ((m >>= f) >>= g) = (m >>= fun a => f a >>= g) := by cases m <;> rfl
/-- what is wanted of an outcome -/
def Post {α : Type} (m : Out α) (P : α → Prop) (R : Err → Prop) : Prop := match m with
  | .ok a => P a
  | .err x => R x
  | .stuck => False
theorem Post.bind {α β : Type} {m : Out α} {f : α → Out β} {P : β → Prop} {R : Err → Prop} (h : Post (m >>= f) P R) : Post m (fun a => Post (f a) P R) R := by
  cases m with
  | ok a => exact h
  | err x => exact h
  | stuck => exact h
theorem Post.mono {α : Type} {m : Out α} {P P' : α → Prop} {R R' : Err → Prop} (h : Post m P R) (hp : ∀ a, P a → P' a) (hr : ∀ x, R x → R' x) : Post m P' R' := by
  cases m with
  | ok a => exact hp a h
  | err x => exact hr x h
  | stuck => exact h
theorem Post.imp {α : Type} {m : Out α} {P P' : α → Prop} {R : Err → Prop} (h : Post m P R) (hp : ∀ a, P a → P' a) : Post m P' R := h.mono hp fun _ q => q

/-! ### steps of the two heaps: F what is fixed for good, H all that is tracked -/
structure Stp (F H F' H' : Hp) : Prop where
  ff : Same F F'
  fh : Same F' H'
  hh : Same H H'
  old : ∀ a, F a = none → H a ≠ none → F' a = none
theorem Stp.refl {F H : Hp} (h : Same F H) : Stp F H F H := ⟨.refl _, h, .refl _, fun _ e _ => e⟩
theorem same_ne {H H' : Hp} (s : Same H H') {a : Addr} (h : H a ≠ none) : H' a ≠ none := by
  cases e : H a with
  | none => exact absurd e h
  | some o =>
    rw [s a o e]
    exact fun z => nomatch z
theorem Stp.trans {F H F1 H1 F2 H2 : Hp} (a : Stp F H F1 H1) (b : Stp F1 H1 F2 H2) : Stp F H F2 H2 :=
  ⟨a.ff.trans b.ff, b.fh, a.hh.trans b.hh, fun c e n => b.old c (a.old c e n) (same_ne a.hh n)⟩
/-- .. where the addresses of W may have been written -/
structure SW (W : Addr → Prop) (F H F' H' : Hp) : Prop where
  ff : Same F F'
  fh : Same F' H'
  hh : ∀ a o, H a = some o → ¬ W a → H' a = some o
  there : ∀ a, H a ≠ none → H' a ≠ none
  old : ∀ a, F a = none → H a ≠ none → F' a = none
theorem SW.refl {W : Addr → Prop} {F H : Hp} (h : Same F H) : SW W F H F H := ⟨.refl _, h, fun _ _ e _ => e, fun _ e => e, fun _ e _ => e⟩
theorem SW.stp {W : Addr → Prop} {F H F1 H1 F2 H2 : Hp} (a : SW W F H F1 H1) (b : Stp F1 H1 F2 H2) : SW W F H F2 H2 :=
  ⟨a.ff.trans b.ff, b.fh, fun c o e n => b.hh c o (a.hh c o e n), fun c n => same_ne b.hh (a.there c n), fun c e n => b.old c (a.old c e n) (a.there c n)⟩
theorem Stp.sw {W : Addr → Prop} {F H F' H' : Hp} (a : Stp F H F' H') : SW W F H F' H' := ⟨a.ff, a.fh, fun c o e _ => a.hh c o e, fun _ n => same_ne a.hh n, a.old⟩
theorem SW.pure {F H F' H' : Hp} (a : SW (fun _ => False) F H F' H') : Stp F H F' H' := ⟨a.ff, a.fh, fun c o e => a.hh c o e id, a.old⟩
/-- a new object, fixed at once -/
theorem Stp.new {F H : Hp} {p : Addr} {o : HO} (s : Same F H) (n : H p = none) : Stp F H (upd F p o) (upd H p o) := by
  have nf : F p = none := s.free n
  refine ⟨fun a u e => ?_, fun a u e => ?_, fun a u e => ?_, fun a e m => ?_⟩
  · rw [upd_ne (ne_of_none e nf)]
    exact e
  · by_cases h : a = p
    · subst h
      rw [upd_same] at e ⊢
      exact e
    · rw [upd_ne h] at e ⊢
      exact s a u e
  · rw [upd_ne (ne_of_none e n)]
    exact e
  · have h : a ≠ p := fun z => by
      rw [z] at m
      exact m n
    rw [upd_ne h]
    exact e
/-- a new object, not fixed -/
theorem Stp.newH {F H : Hp} {p : Addr} {o : HO} (s : Same F H) (n : H p = none) : Stp F H F (upd H p o) := by
  refine ⟨.refl _, fun a u e => ?_, fun a u e => ?_, fun _ e _ => e⟩
  · rw [upd_ne (ne_of_none (s a u e) n)]
    exact s a u e
  · rw [upd_ne (ne_of_none e n)]
    exact e
theorem seqT {K : PySem.W.Frag} {H H' : Hp} {a : Addr} {xs : List V} (e : Same H H') (h : SqT K H a xs) : SqT K H' a xs := by
  rcases h with (h | ⟨o, h⟩) | h
  · exact .inl (.inl (e _ _ h))
  · exact .inl (.inr ⟨o, e _ _ h⟩)
  · exact .inr h

/-! ### relations of values and data -/
/-- by both heaps -/
structure Rl (α : Type) where
  rel : PySem.W.Frag → Hp → Hp → V → α → Prop
  mono : ∀ {K : PySem.W.Frag} {F H F' H' : Hp} {v : V} {a : α}, Stp F H F' H' → rel K F H v a → rel K F' H' v a
/-- by what is fixed alone -/
structure Ty (α : Type) where
  rel : PySem.W.Frag → Hp → V → α → Prop
  mono : ∀ {K : PySem.W.Frag} {F F' : Hp} {v : V} {a : α}, Same F F' → rel K F v a → rel K F' v a
def Ty.rl {α : Type} (T : Ty α) : Rl α := ⟨fun K F _ v a => T.rel K F v a, fun s h => T.mono s.ff h⟩
/-- pointwise -/
inductive Fa2 {α : Type} (R : V → α → Prop) : List V → List α → Prop where
  | nil : Fa2 R [] []
  | cons {v : V} {a : α} {vs : List V} {as : List α} : R v a → Fa2 R vs as → Fa2 R (v :: vs) (a :: as)
theorem Fa2.imp {α : Type} {R R' : V → α → Prop} {vs : List V} {as : List α} (h : Fa2 R vs as) (f : ∀ v a, R v a → R' v a) : Fa2 R' vs as := by
  induction h with
  | nil => exact .nil
  | cons r _ ih => exact .cons (f _ _ r) ih
theorem Fa2.len {α : Type} {R : V → α → Prop} {vs : List V} {as : List α} (h : Fa2 R vs as) : vs.length = as.length := by
  induction h with
  | nil => rfl
  | cons _ _ ih => rw [List.length_cons, List.length_cons, ih]
theorem Fa2.get {α : Type} {R : V → α → Prop} {vs : List V} {as : List α} (h : Fa2 R vs as) : ∀ {i : Nat} {a : α}, as[i]? = some a → ∃ v, vs[i]? = some v ∧ R v a := by
  induction h with
  | nil => intro i a e; simp at e
  | cons r _ ih =>
    intro i a e
    cases i with
    | zero => simp at e; subst e; exact ⟨_, rfl, r⟩
    | succ i => simpa using ih (by simpa using e)
theorem Fa2.getV {α : Type} {R : V → α → Prop} {vs : List V} {as : List α} (h : Fa2 R vs as) : ∀ {i : Nat} {v : V}, vs[i]? = some v → ∃ a, as[i]? = some a ∧ R v a := by
  induction h with
  | nil => intro i a e; simp at e
  | cons r _ ih =>
    intro i a e
    cases i with
    | zero => simp at e; subst e; exact ⟨_, rfl, r⟩
    | succ i => simpa using ih (by simpa using e)
theorem Fa2.app {α : Type} {R : V → α → Prop} {vs ws : List V} {as bs : List α} (h : Fa2 R vs as) (g : Fa2 R ws bs) : Fa2 R (vs ++ ws) (as ++ bs) := by
  induction h with
  | nil => exact g
  | cons r _ ih => exact .cons r ih
theorem Fa2.take {α : Type} {R : V → α → Prop} {vs : List V} {as : List α} (h : Fa2 R vs as) : ∀ n : Nat, Fa2 R (vs.take n) (as.take n) := by
  induction h with
  | nil => intro n; simpa using Fa2.nil
  | cons r _ ih =>
    intro n
    cases n with
    | zero => exact .nil
    | succ n => exact .cons r (ih n)
theorem Fa2.drop {α : Type} {R : V → α → Prop} {vs : List V} {as : List α} (h : Fa2 R vs as) : ∀ n : Nat, Fa2 R (vs.drop n) (as.drop n) := by
  induction h with
  | nil => intro n; simpa using Fa2.nil
  | cons r t ih =>
    intro n
    cases n with
    | zero => exact .cons r t
    | succ n => exact ih n
theorem Fa2.set {α : Type} {R : V → α → Prop} {vs : List V} {as : List α} (h : Fa2 R vs as) {v : V} {a : α} (r : R v a) : ∀ n : Nat, Fa2 R (vs.set n v) (as.set n a) := by
  induction h with
  | nil => intro n; simpa using Fa2.nil
  | cons q t ih =>
    intro n
    cases n with
    | zero => exact .cons r t
    | succ n => exact .cons q (ih n)
theorem Fa2.rep {α : Type} {R : V → α → Prop} {v : V} {a : α} (r : R v a) : ∀ n : Nat, Fa2 R (List.replicate n v) (List.replicate n a)
  | 0 => .nil
  | n + 1 => .cons r (Fa2.rep r n)
theorem Fa2.rev {α : Type} {R : V → α → Prop} {vs : List V} {as : List α} (h : Fa2 R vs as) : Fa2 R vs.reverse as.reverse := by
  induction h with
  | nil => exact .nil
  | cons r _ ih => simpa using ih.app (.cons r .nil)
theorem Fa2.erase {α : Type} {R : V → α → Prop} {vs : List V} {as : List α} (h : Fa2 R vs as) : ∀ n : Nat, Fa2 R (vs.eraseIdx n) (as.eraseIdx n) := by
  induction h with
  | nil => intro n; simpa using Fa2.nil
  | cons q t ih =>
    intro n
    cases n with
    | zero => exact t
    | succ n => exact .cons q (ih n)
theorem Fa2.map {α β : Type} {R : V → α → Prop} {R' : V → β → Prop} {vs : List V} {as : List α} (h : Fa2 R vs as) (f : α → β) (g : ∀ v a, R v a → R' v (f a)) : Fa2 R' vs (as.map f) := by
  induction h with
  | nil => exact .nil
  | cons r _ ih => exact .cons (g _ _ r) ih

/-! ### the types -/
def tInt : Ty Int := ⟨fun _ _ v a => v = .int a, fun _ h => h⟩
def tBool : Ty Bool := ⟨fun _ _ v a => v = .bl a, fun _ h => h⟩
def tStr : Ty Str := ⟨fun _ _ v a => v = .str a, fun _ h => h⟩
def tNon : Ty Unit := ⟨fun _ _ v _ => v = .non, fun _ h => h⟩
def tOpt {α : Type} (T : Ty α) : Ty (Option α) := ⟨fun K F v a => match a with
  | none => v = .non
  | some x => v ≠ .non ∧ T.rel K F v x, fun {K F F' v a} s h => by
  cases a with
  | none => exact h
  | some x => exact ⟨h.1, T.mono s h.2⟩⟩
def tLst {α : Type} (T : Ty α) : Ty (List α) := ⟨fun K F v a => ∃ p vs, v = .ref p ∧ F p = some (.lst vs) ∧ Fa2 (T.rel K F) vs a,
  fun s ⟨p, vs, e, q, r⟩ => ⟨p, vs, e, s _ _ q, r.imp fun _ _ => T.mono s⟩⟩
/-- a list that is only read (the script, a list of the module) -/
def tLstQ {α : Type} (T : Ty α) : Ty (List α) := ⟨fun K F v a => ∃ p vs, v = .ref p ∧ SqL K F p vs ∧ Fa2 (T.rel K F) vs a,
  fun s ⟨p, vs, e, q, r⟩ => ⟨p, vs, e, s.seq q, r.imp fun _ _ => T.mono s⟩⟩
def tTup {α : Type} (T : Ty α) : Ty (List α) := ⟨fun K F v a => ∃ p vs, v = .ref p ∧ SqT K F p vs ∧ Fa2 (T.rel K F) vs a,
  fun s ⟨p, vs, e, q, r⟩ => ⟨p, vs, e, seqT s q, r.imp fun _ _ => T.mono s⟩⟩
/-- tuples and lists of two, three, four things of their own types -/
def tT1 {α : Type} (T : Ty α) : Ty α := ⟨fun K F v a => ∃ p v1, v = .ref p ∧ SqT K F p [v1] ∧ T.rel K F v1 a,
  fun s ⟨p, v1, e, q, r⟩ => ⟨p, v1, e, seqT s q, T.mono s r⟩⟩
def tT2 {α β : Type} (T : Ty α) (U : Ty β) : Ty (α × β) := ⟨fun K F v a => ∃ p v1 v2, v = .ref p ∧ SqT K F p [v1, v2] ∧ T.rel K F v1 a.1 ∧ U.rel K F v2 a.2,
  fun s ⟨p, v1, v2, e, q, r, t⟩ => ⟨p, v1, v2, e, seqT s q, T.mono s r, U.mono s t⟩⟩
def tT3 {α β γ : Type} (T : Ty α) (U : Ty β) (W : Ty γ) : Ty (α × β × γ) := ⟨fun K F v a => ∃ p v1 v2 v3, v = .ref p ∧ SqT K F p [v1, v2, v3] ∧ T.rel K F v1 a.1 ∧ U.rel K F v2 a.2.1 ∧ W.rel K F v3 a.2.2,
  fun s ⟨p, v1, v2, v3, e, q, r, t, u⟩ => ⟨p, v1, v2, v3, e, seqT s q, T.mono s r, U.mono s t, W.mono s u⟩⟩
def tL2 {α β : Type} (T : Ty α) (U : Ty β) : Ty (α × β) := ⟨fun K F v a => ∃ p v1 v2, v = .ref p ∧ F p = some (.lst [v1, v2]) ∧ T.rel K F v1 a.1 ∧ U.rel K F v2 a.2,
  fun s ⟨p, v1, v2, e, q, r, t⟩ => ⟨p, v1, v2, e, s _ _ q, T.mono s r, U.mono s t⟩⟩
def tL3 {α β γ : Type} (T : Ty α) (U : Ty β) (W : Ty γ) : Ty (α × β × γ) := ⟨fun K F v a => ∃ p v1 v2 v3, v = .ref p ∧ F p = some (.lst [v1, v2, v3]) ∧ T.rel K F v1 a.1 ∧ U.rel K F v2 a.2.1 ∧ W.rel K F v3 a.2.2,
  fun s ⟨p, v1, v2, v3, e, q, r, t, u⟩ => ⟨p, v1, v2, v3, e, s _ _ q, T.mono s r, U.mono s t, W.mono s u⟩⟩
mutual
theorem dp_mono {K : PySem.W.Frag} {F F' : Hp} (s : Same F F') : ∀ {d : PyData} {v : V}, Dp K F v d → Dp K F' v d
  | .none, _, h => by cases h; exact .non
  | .bool _, _, h => by cases h; exact .bl _
  | .int _, _, h => by cases h; exact .int _
  | .str _, _, h => by cases h; exact .str _
  | .tuple _, _, h => by
    cases h with
    | tup q r => exact .tup (seqT s q) (dps_mono s r)
  | .list _, _, h => by
    cases h with
    | lst q r => exact .lst (s.seq q) (dps_mono s r)
  | .dict _, _, h => by cases h
theorem dps_mono {K : PySem.W.Frag} {F F' : Hp} (s : Same F F') : ∀ {xs : List PyData} {vs : List V}, DpAll K F vs xs → DpAll K F' vs xs
  | [], _, h => by cases h; exact .nil
  | _ :: _, _, h => by
    cases h with
    | cons h1 h2 => exact .cons (dp_mono s h1) (dps_mono s h2)
end
def tD : Ty PyData := ⟨fun K F v a => Dp K F v a, fun s h => dp_mono s h⟩
/-- a list that may be read -/
def LAt {α : Type} (T : Ty α) (K : PySem.W.Frag) (F H : Hp) (v : V) (a : List α) : Prop := ∃ p vs, v = .ref p ∧ SqL K H p vs ∧ Fa2 (T.rel K F) vs a
/-- .. the list itself is tracked -/
def rLstH {α : Type} (T : Ty α) : Rl (List α) := ⟨fun K F H v a => ∃ p vs, v = .ref p ∧ H p = some (.lst vs) ∧ Fa2 (T.rel K F) vs a, fun s ⟨p, vs, e, q, r⟩ => ⟨p, vs, e, s.hh _ _ q, r.imp fun _ _ => T.mono s.ff⟩⟩
def rLst {α : Type} (T : Ty α) : Rl (List α) := ⟨fun K F H v a => LAt T K F H v a, fun s ⟨p, vs, e, q, r⟩ => ⟨p, vs, e, s.hh.seq q, r.imp fun _ _ => T.mono s.ff⟩⟩

/-! ### owned things -/
structure Own (α : Type) where
  rel : PySem.W.Frag → Hp → Hp → (Addr → Prop) → V → α → Prop
  keep : ∀ {K : PySem.W.Frag} {F H F' H' : Hp} {S : Addr → Prop} {v : V} {a : α}, rel K F H S v a → Same F F' → (∀ p, S p → H' p = H p) → rel K F' H' S v a
/-- fixed -/
def im {α : Type} (T : Ty α) : Own α := ⟨fun K F _ _ v a => T.rel K F v a, fun h s _ => T.mono s h⟩
/-- a list of fixed things -/
def oLst {α : Type} (T : Ty α) : Own (List α) := ⟨fun K F H S v a => ∃ p vs, v = .ref p ∧ S p ∧ H p = some (.lst vs) ∧ Fa2 (T.rel K F) vs a,
  fun ⟨p, vs, e, sp, h, r⟩ s k => ⟨p, vs, e, sp, (k p sp).trans h, r.imp fun _ _ => T.mono s⟩⟩
/-- F with what S has in H -/
noncomputable def frz (F H : Hp) (S : Addr → Prop) : Hp := fun p => by
  classical
  exact if S p then H p else F p
theorem frz_in {F H : Hp} {S : Addr → Prop} {p : Addr} (h : S p) : frz F H S p = H p := by
  unfold frz
  simp [h]
theorem frz_out {F H : Hp} {S : Addr → Prop} {p : Addr} (h : ¬ S p) : frz F H S p = F p := by
  unfold frz
  simp [h]
theorem frz_same {F H : Hp} {S : Addr → Prop} (d : ∀ p, S p → F p = none) : Same F (frz F H S) := fun a o e => by
  rw [frz_out (fun h => by rw [d a h] at e; cases e)]
  exact e
theorem frz_sub {F H : Hp} {S : Addr → Prop} (s : Same F H) : Same (frz F H S) H := fun a o e => by
  by_cases h : S a
  · rw [frz_in h] at e
    exact e
  · rw [frz_out h] at e
    exact s a o e
/-- what an owned thing is when it is fixed -/
def Fz {α : Type} (O : Own α) (T : Ty α) : Prop := ∀ (K : PySem.W.Frag) (F H : Hp) (S : Addr → Prop) (v : V) (a : α), (∀ p, S p → F p = none) → O.rel K F H S v a → T.rel K (frz F H S) v a
theorem fz_lst {α : Type} (T : Ty α) : Fz (oLst T) (tLst T) := fun K F H S v a d ⟨p, vs, e, sp, h, r⟩ =>
  ⟨p, vs, e, (frz_in sp).trans h, r.imp fun _ _ => T.mono (frz_same d)⟩

/-! ### the state: the slots -/
inductive Slot where
  | any
  | on (α : Type) (O : Own α) (a : α)
def Slot.ok (K : PySem.W.Frag) (F H : Hp) (S : Addr → Prop) (o : Option V) : Slot → Prop
  | .any => True
  | .on _ O a => ∃ v, o = some v ∧ O.rel K F H S v a
abbrev iS {α : Type} (T : Ty α) (a : α) : Slot := .on α (im T) a
/-- a def's entry: the heaps, the addresses that it may write -/
structure Bs where
  F : Hp
  H : Hp
  W : Addr → Prop
abbrev Ow := Addr → Option Nat
structure EnvOk (K : PySem.W.Frag) (B : Bs) (Γ : List Slot) (σ : L2.St) (F H : Hp) (ω : Ow) : Prop where
  base : SW B.W B.F B.H F H
  len : σ.length = Γ.length
  own : ∀ a i, ω a = some i → F a = none ∧ H a ≠ none ∧ (B.H a = none ∨ B.W a)
  slot : ∀ (i : Nat) (s : Slot), Γ[i]? = some s → s.ok K F H (fun a => ω a = some i) (σ[i]?.join)
theorem Slot.keep {K : PySem.W.Frag} {F H F' H' : Hp} {S : Addr → Prop} {o : Option V} {s : Slot} (h : s.ok K F H S o) (ff : Same F F') (k : ∀ p, S p → H' p = H p) : s.ok K F' H' S o := by
  cases s with
  | any => trivial
  | on α O a =>
    obtain ⟨v, e, r⟩ := h
    exact ⟨v, e, O.keep r ff k⟩
theorem same_at {H H' : Hp} (s : Same H H') {a : Addr} (n : H a ≠ none) : H' a = H a := by
  cases e : H a with
  | none => exact absurd e n
  | some o => exact s a o e
theorem EnvOk.fh {K : PySem.W.Frag} {B : Bs} {Γ : List Slot} {σ : L2.St} {F H : Hp} {ω : Ow} (e : EnvOk K B Γ σ F H ω) : Same F H := e.base.fh
theorem EnvOk.stp {K : PySem.W.Frag} {B : Bs} {Γ : List Slot} {σ : L2.St} {F H F' H' : Hp} {ω : Ow} (e : EnvOk K B Γ σ F H ω) (s : Stp F H F' H') : EnvOk K B Γ σ F' H' ω :=
  ⟨e.base.stp s, e.len, fun a i h => let ⟨x, y, z⟩ := e.own a i h; ⟨s.old a x y, same_ne s.hh y, z⟩, fun i t h => Slot.keep (e.slot i t h) s.ff fun p hp => same_at s.hh (e.own p i hp).2.1⟩

/-! ### errors, ends -/
def ErrOk (K : PySem.W.Frag) (F : Hp) (x : Err) (cls : Value) (d : Option Addr) : Prop :=
  cls = .ref (gaN K x.cls) ∧ ∃ dd fs, d = some dd ∧ F dd = some (.xd fs) ∧ fs.map (·.1) = x.fs.map (·.1) ∧ DpAll K F (fs.map (·.2)) (x.fs.map (·.2))
  where gaN (K : PySem.W.Frag) (x : Str) : Addr := match PySem.W.nsIn K mainGlobals x with
    | some (some (.ref a)) => a
    | _ => 0
/-- what a wish about exceptions takes -/
def RB (K : PySem.W.Frag) (B : Bs) (E : XK) (x : Err) : Prop := ∀ cls d F' H', SW B.W B.F B.H F' H' → ErrOk K F' x cls d → E cls d H'
inductive SOut where
  | nx (Γ : List Slot)
  | bk (Γ : List Slot)
  | rt (α : Type) (T : Ty α) (a : α)
  | ro (α : Type) (O : Own α) (a : α)
def EndOk (K : PySem.W.Frag) (B : Bs) (F0 : Hp) (En : Ends) : SOut → Prop
  | .nx Γ => ∀ σ F H ω, Same F0 F → EnvOk K B Γ σ F H ω → En.nx σ H
  | .bk Γ => ∀ σ F H ω, Same F0 F → EnvOk K B Γ σ F H ω → En.bk σ H
  | .rt _ T a => ∀ v F H, SW B.W B.F B.H F H → T.rel K F v a → En.rt v H
  | .ro _ O a => ∀ v F H S, SW B.W B.F B.H F H → (∀ p, S p → F p = none ∧ H p ≠ none ∧ B.H p = none) → O.rel K F H S v a → En.rt v H
theorem EndOk.up {K : PySem.W.Frag} {B : Bs} {F0 F1 : Hp} {En : Ends} {o : SOut} (h : EndOk K B F0 En o) (s : Same F0 F1) : EndOk K B F1 En o := by
  cases o with
  | nx Γ => exact fun σ F H ω q e => h σ F H ω (s.trans q) e
  | bk Γ => exact fun σ F H ω q e => h σ F H ω (s.trans q) e
  | rt α T a => exact h
  | ro α O a => exact h

/-! ### the judgements -/
def sE (X : Cx) (e : Expr) : TE := fun σ H Q => ∃ t, PE X e t ∧ t σ H Q
def sT (X : Cx) (e : Expr) : TT := fun σ H Q => ∃ t, PT X e t ∧ t σ H Q
def sA (X : Cx) (es : List Expr) : TA := fun σ H Q => ∃ t, PA X es t ∧ t σ H Q
def sS (X : Cx) (s : Stmt) : TS := fun D σ H => ∃ t, PS X s t ∧ t D σ H
def sSs (X : Cx) (ss : List Stmt) : TS := fun D σ H => ∃ t, PSs X ss t ∧ t D σ H
def sG (X : Cx) (tg : Expr) : TG := fun v σ H Q => ∃ t, PG X tg t ∧ t v σ H Q
def sI (X : Cx) (tg iter : Expr) : TI := fun σ H R => ∃ w, PI X tg iter w ∧ w σ H R
theorem pe_s {X : Cx} {e : Expr} : PE X e (sE X e) := ⟨fun pins s σ H Q I ⟨_, p, h⟩ => p.run pins s σ H Q I h⟩
theorem pt_s {X : Cx} {e : Expr} : PT X e (sT X e) := ⟨fun pins s σ H Q I ⟨_, p, h⟩ => p.run pins s σ H Q I h⟩
theorem pa_s {X : Cx} {es : List Expr} : PA X es (sA X es) := ⟨fun pos pins s σ H Q I ⟨_, p, h⟩ => p.run pos pins s σ H Q I h⟩
theorem ps_s {X : Cx} {s : Stmt} : PS X s (sS X s) := ⟨fun pins s σ H D I ⟨_, p, h⟩ => p.run pins s σ H D I h⟩
theorem pss_s {X : Cx} {ss : List Stmt} : PSs X ss (sSs X ss) := ⟨fun pins s σ H D I ⟨_, p, h⟩ => p.run pins s σ H D I h⟩
theorem pg_s {X : Cx} {tg : Expr} : PG X tg (sG X tg) := ⟨fun pins s σ H v u Q I r ⟨_, p, h⟩ => p.run pins s σ H v u Q I r h⟩
theorem pi_s {X : Cx} {tg iter : Expr} : PI X tg iter (sI X tg iter) := ⟨fun pins s σ H R I ⟨_, p, h⟩ => p.run pins s σ H R I h⟩

/-- a scope as it runs, as it is written -/
structure Scp where
  sc : Scope
  raw : Scope
/-- what is known of the context: the names by slot, the scope, the room for calls, the wish E about exceptions -/
structure XC (X : Cx) (N : List Str) (sc : Scp) (k : Nat) (E : XK) : Prop where
  nm : X.N = N
  nd : N.Nodup
  scp : X.env.scope = sc.sc
  calm : X.calm = true
  room : Room k X.A
  pass : Passes (L2.CX X.prog X.w) X E
  own : PassesOwn (model X.prog X.w) X.A X.env X.xe
  loc : ∀ x, L2.Loc sc.raw x → L2.Loc X.env.scope x ∧ (X.fn x = true ∨ X.env.scope.names.lookup x = some .local)

variable {X : Cx} {N : List Str} {sc : Scp} {k : Nat} {E : XK} {B : Bs} {Γ : List Slot}
def WE (X : Cx) (E : XK) (B : Bs) (Γ : List Slot) (e : Expr) {α : Type} (R : Rl α) (m : Out α) : Prop :=
  ∀ σ F H ω Q, EnvOk X.K B Γ σ F H ω → Post m (fun a => ∀ v F' H', Stp F H F' H' → R.rel X.K F' H' v a → Q v H') (RB X.K B E) → sE X e σ H Q
def WT (X : Cx) (E : XK) (B : Bs) (Γ : List Slot) (e : Expr) (m : Out Bool) : Prop :=
  ∀ σ F H ω Q, EnvOk X.K B Γ σ F H ω → Post m (fun b => ∀ F' H', Stp F H F' H' → Q b H') (RB X.K B E) → sT X e σ H Q
/-- a new thing -/
def WO (X : Cx) (E : XK) (B : Bs) (Γ : List Slot) (e : Expr) {α : Type} (O : Own α) (m : Out α) : Prop :=
  ∀ σ F H ω Q, EnvOk X.K B Γ σ F H ω → Post m (fun a => ∀ v F' H' S, Stp F H F' H' → (∀ p, S p → F' p = none ∧ H' p ≠ none ∧ H p = none) → O.rel X.K F' H' S v a → Q v H') (RB X.K B E) → sE X e σ H Q
/-- blocks, one behind another -/
def sK (X : Cx) : List (List Stmt) → TS
  | [] => fun D σ H => D.nx σ H
  | b :: bs => fun D σ H => sSs X b { D with nx := fun σ' H' => sK X bs D σ' H' } σ H
def WS (X : Cx) (E : XK) (B : Bs) (Γ : List Slot) (bs : List (List Stmt)) {β : Type} (m : Out β) (D : β → SOut) : Prop :=
  ∀ σ F H ω En, EnvOk X.K B Γ σ F H ω → Post m (fun b => EndOk X.K B F En (D b)) (RB X.K B E) → sK X bs En σ H
/-- one statement -/
def W1 (X : Cx) (E : XK) (B : Bs) (Γ : List Slot) (s : Stmt) {β : Type} (m : Out β) (D : β → SOut) : Prop :=
  ∀ σ F H ω En, EnvOk X.K B Γ σ F H ω → Post m (fun b => EndOk X.K B F En (D b)) (RB X.K B E) → sS X s En σ H
end SL

set_option Elab.async false
set_option linter.all false
set_option maxRecDepth 100000
set_option maxHeartbeats 2000000
/-! SLb: rules of the typed layer: expressions, tests. -/
namespace SL
open PySem PySem.Spec PyProof.Rows L2
variable {X : Cx} {N : List Str} {sc : Scp} {k : Nat} {E : XK} {B : Bs} {Γ : List Slot}

/-! ### weakening -/
def Rl.le {α : Type} (R S : Rl α) : Prop := ∀ K F H v a, R.rel K F H v a → S.rel K F H v a
theorem WE.sub {e : Expr} {α : Type} {R S : Rl α} {m : Out α} (h : WE X E B Γ e R m) (l : ∀ K F H v a, Same F H → R.rel K F H v a → S.rel K F H v a) : WE X E B Γ e S m :=
  fun σ F H ω Q e p => h σ F H ω Q e (p.imp fun a q v F' H' s r => q v F' H' s (l _ _ _ _ _ s.fh r))
theorem tLst_H {α : Type} {T : Ty α} : ∀ K F H v (a : List α), Same F H → (tLst T).rl.rel K F H v a → (rLstH T).rel K F H v a :=
  fun K F H v a s ⟨p, vs, e, q, r⟩ => ⟨p, vs, e, s _ _ q, r⟩
theorem rLst_H {α : Type} {T : Ty α} : ∀ K F H v (a : List α), Same F H → (rLstH T).rel K F H v a → (rLst T).rel K F H v a :=
  fun K F H v a s ⟨p, vs, e, q, r⟩ => ⟨p, vs, e, SqL.of q, r⟩
theorem tLstQ_le {α : Type} {T : Ty α} : ∀ K F H v (a : List α), Same F H → (tLstQ T).rl.rel K F H v a → (rLst T).rel K F H v a :=
  fun K F H v a s ⟨p, vs, e, q, r⟩ => ⟨p, vs, e, s.seq q, r⟩
/-- a list that may be read, of something fixed -/
theorem WE.rh {e : Expr} {α : Type} {T : Ty α} {m : Out (List α)} (h : WE X E B Γ e (tLst T).rl m) : WE X E B Γ e (rLstH T) m := h.sub tLst_H
theorem WE.hr {e : Expr} {α : Type} {T : Ty α} {m : Out (List α)} (h : WE X E B Γ e (rLstH T) m) : WE X E B Γ e (rLst T) m := h.sub rLst_H
theorem WE.rd {e : Expr} {α : Type} {T : Ty α} {m : Out (List α)} (h : WE X E B Γ e (tLst T).rl m) : WE X E B Γ e (rLst T) m := h.rh.hr
theorem WE.rq {e : Expr} {α : Type} {T : Ty α} {m : Out (List α)} (h : WE X E B Γ e (tLstQ T).rl m) : WE X E B Γ e (rLst T) m := h.sub tLstQ_le
theorem WE.cast {e : Expr} {α : Type} {R : Rl α} {m m' : Out α} (h : WE X E B Γ e R m) (q : m = m') : WE X E B Γ e R m' := q ▸ h
theorem WE.map {e : Expr} {α β : Type} {R : Rl α} {S : Rl β} {m : Out α} (h : WE X E B Γ e R m) (f : α → β) (l : ∀ K F H v a, Same F H → R.rel K F H v a → S.rel K F H v (f a)) : WE X E B Γ e S (m >>= fun a => pure (f a)) :=
  fun σ F H ω Q e p => h σ F H ω Q e (p.bind.imp fun a q v F' H' s r => q v F' H' s (l _ _ _ _ _ s.fh r))
/-- fixed -/
theorem WO.fz {e : Expr} {α : Type} {O : Own α} {T : Ty α} {m : Out α} (h : WO X E B Γ e O m) (z : Fz O T) : WE X E B Γ e T.rl m := fun σ F H ω Q e p =>
  h σ F H ω Q e (p.imp fun a q v F' H' S s d r => q v (frz F' H' S) H'
    ⟨s.ff.trans (frz_same fun p hp => (d p hp).1), frz_sub s.fh, s.hh, fun c x y => by
      rw [frz_out (fun hc => y (d c hc).2.2)]
      exact s.old c x y⟩ (z _ _ _ _ _ _ (fun p hp => (d p hp).1) r))
/-- a new list as one that may be read -/
theorem WO.rh {e : Expr} {α : Type} {T : Ty α} {m : Out (List α)} (h : WO X E B Γ e (oLst T) m) : WE X E B Γ e (rLstH T) m := (h.fz (fz_lst T)).rh
theorem WO.rd {e : Expr} {α : Type} {T : Ty α} {m : Out (List α)} (h : WO X E B Γ e (oLst T) m) : WE X E B Γ e (rLst T) m := (h.fz (fz_lst T)).rd

/-! ### names, constants -/
theorem join_some {σ : L2.St} {i : Nat} {v : V} (h : σ[i]?.join = some v) : σ[i]? = some (some v) := by
  cases e : σ[i]? with
  | none => rw [e] at h; cases h
  | some o => rw [e] at h; exact congrArg some h
theorem pv_ (C : XC X N sc k E) {i : Nat} {x : Str} {pos : Pos} (hN : N[i]? = some x) (hv : Vis sc.sc x) (hd : (x == ("__debug__" : Str)) = false) (hcd : (x == ("__classdict__" : Str)) = false) : PE X (.Name x pos) (tVar i) :=
  pe_var (by rw [C.nm]; exact hN) (by rw [C.scp]; exact hv) hd hcd
/-- what may be read of a slot -/
theorem we_slot (C : XC X N sc k E) (i : Nat) {x : Str} {pos : Pos} {α : Type} {O : Own α} {R : Rl α} {a : α} (l : ∀ K F H S v a, Same F H → O.rel K F H S v a → R.rel K F H v a) (hΓ : Γ[i]? = some (.on α O a)) (hN : N[i]? = some x) (hv : Vis sc.sc x)
    (hd : (x == ("__debug__" : Str)) = false) (hcd : (x == ("__classdict__" : Str)) = false) : WE X E B Γ (.Name x pos) R (pure a) := fun σ F H ω Q e p => by
  obtain ⟨v, hs, r⟩ := e.slot i _ hΓ
  exact ⟨_, pv_ C hN hv hd hcd, v, join_some hs, p v F H (Stp.refl e.fh) (l _ _ _ _ _ _ e.fh r)⟩
/-- the fixed thing in slot i -/
theorem we_var (C : XC X N sc k E) (i : Nat) {x : Str} {pos : Pos} {α : Type} {T : Ty α} {a : α} (hΓ : Γ[i]? = some (iS T a) := by rfl) (hN : N[i]? = some x := by rfl) (hv : Vis sc.sc x := by first | exact Or.inl rfl | exact Or.inr (Or.inl rfl) | exact Or.inr (Or.inr rfl))
    (hd : (x == ("__debug__" : Str)) = false := by decide) (hcd : (x == ("__classdict__" : Str)) = false := by decide) : WE X E B Γ (.Name x pos) T.rl (pure a) :=
  we_slot C i (R := T.rl) (fun _ _ _ _ _ _ _ r => r) hΓ hN hv hd hcd
/-- the own list in slot i -/
theorem we_ovar (C : XC X N sc k E) (i : Nat) {x : Str} {pos : Pos} {α : Type} {T : Ty α} {a : List α} (hΓ : Γ[i]? = some (.on _ (oLst T) a) := by rfl) (hN : N[i]? = some x := by rfl) (hv : Vis sc.sc x := by first | exact Or.inl rfl | exact Or.inr (Or.inl rfl) | exact Or.inr (Or.inr rfl))
    (hd : (x == ("__debug__" : Str)) = false := by decide) (hcd : (x == ("__classdict__" : Str)) = false := by decide) : WE X E B Γ (.Name x pos) (rLstH T) (pure a) :=
  we_slot C i (R := rLstH T) (fun _ _ _ _ _ _ _ h => by
    obtain ⟨p, vs, e, _, h, r⟩ := h
    exact ⟨p, vs, e, h, r⟩) hΓ hN hv hd hcd
theorem we_int {i : Int} {j : Nat} {pos : Pos} : WE X E B Γ (.Constant (.int i) j pos) tInt.rl (pure i) := fun σ F H ω Q e p => ⟨_, pe_int, p _ F H (Stp.refl e.fh) rfl⟩
theorem we_bl {b : Bool} {j : Nat} {pos : Pos} : WE X E B Γ (.Constant (.bool b) j pos) tBool.rl (pure b) := fun σ F H ω Q e p => ⟨_, pe_bl, p _ F H (Stp.refl e.fh) rfl⟩
theorem we_non {j : Nat} {pos : Pos} : WE X E B Γ (.Constant .none j pos) tNon.rl (pure ()) := fun σ F H ω Q e p => ⟨_, pe_non, p _ F H (Stp.refl e.fh) rfl⟩
theorem we_str {s : Str} {j : Nat} {pos : Pos} : WE X E B Γ (.Constant (.str s) j pos) tStr.rl (pure s) := fun σ F H ω Q e p => ⟨_, pe_str, p _ F H (Stp.refl e.fh) rfl⟩
/-- None where something may be -/
theorem we_nonO {α : Type} {T : Ty α} {j : Nat} {pos : Pos} : WE X E B Γ (.Constant .none j pos) (tOpt T).rl (pure none) := fun σ F H ω Q e p => ⟨_, pe_non, p _ F H (Stp.refl e.fh) rfl⟩
/-- a type whose things are never None -/
def NN {α : Type} (T : Ty α) : Prop := ∀ K F v a, T.rel K F v a → v ≠ .non
theorem nn_int : NN tInt := fun _ _ _ _ h => by rw [show _ = _ from h]; exact fun z => nomatch z
theorem nn_bool : NN tBool := fun _ _ _ _ h => by rw [show _ = _ from h]; exact fun z => nomatch z
theorem nn_str : NN tStr := fun _ _ _ _ h => by rw [show _ = _ from h]; exact fun z => nomatch z
theorem nn_tup {α : Type} {T : Ty α} : NN (tTup T) := fun _ _ _ _ ⟨_, _, e, _⟩ => by rw [e]; exact fun z => nomatch z
theorem nn_lst {α : Type} {T : Ty α} : NN (tLst T) := fun _ _ _ _ ⟨_, _, e, _⟩ => by rw [e]; exact fun z => nomatch z
theorem nn_t2 {α β : Type} {T : Ty α} {U : Ty β} : NN (tT2 T U) := fun _ _ _ _ ⟨_, _, _, e, _⟩ => by rw [e]; exact fun z => nomatch z
theorem nn_t3 {α β γ : Type} {T : Ty α} {U : Ty β} {W : Ty γ} : NN (tT3 T U W) := fun _ _ _ _ ⟨_, _, _, _, e, _⟩ => by rw [e]; exact fun z => nomatch z
theorem WE.some {e : Expr} {α : Type} {T : Ty α} {m : Out α} (h : WE X E B Γ e T.rl m) (n : NN T) : WE X E B Γ e (tOpt T).rl (m >>= fun a => pure (some a)) :=
  h.map Option.some fun K F H v a _ r => ⟨n K F v a r, r⟩

/-! ### two operands -/
/-- an operation on values: what f tells of the data -/
def VOp (K : PySem.W.Frag) (r : R2) {α β γ : Type} (R : Rl α) (S : Rl β) (W : Rl γ) (f : α → β → Out γ) : Prop :=
  ∀ (F H : Hp) (x y : V) (a : α) (b : β) (Q : VK) (J : Err → Prop), Same F H → R.rel K F H x a → S.rel K F H y b → Post (f a b) (fun c => ∀ v F' H', Stp F H F' H' → W.rel K F' H' v c → Q v H') J → r x y H Q
theorem two_ {e1 e2 : Expr} {α β γ : Type} {R : Rl α} {S : Rl β} {W : Rl γ} {r : R2} {f : α → β → Out γ} {m1 : Out α} {m2 : Out β} (h1 : WE X E B Γ e1 R m1) (h2 : WE X E B Γ e2 S m2) (hr : VOp X.K r R S W f)
    {σ : L2.St} {F H : Hp} {ω : Ow} {Q : VK} (e : EnvOk X.K B Γ σ F H ω) (p : Post (m1 >>= fun a => m2 >>= fun b => f a b) (fun c => ∀ v F' H', Stp F H F' H' → W.rel X.K F' H' v c → Q v H') (RB X.K B E)) :
    tOp r (sE X e1) (sE X e2) σ H Q := by
  refine h1 σ F H ω _ e (p.bind.imp fun a q v1 F1 H1 s1 r1 => ?_)
  refine h2 σ F1 H1 ω _ (e.stp s1) (q.bind.imp fun b q v2 F2 H2 s2 r2 => ?_)
  exact hr F2 H2 v1 v2 a b Q _ s2.fh (R.mono s2 r1) r2 (q.imp fun c q v F' H' s r => q v F' H' ((s1.trans s2).trans s) r)
theorem we_op {op : Operator} {r : R2} (ho : OpR X (binaryOp op) r) {e1 e2 : Expr} {α β γ : Type} {R : Rl α} {S : Rl β} {W : Rl γ} {f : α → β → Out γ} {m1 : Out α} {m2 : Out β} {pos : Pos} (hr : VOp X.K r R S W f)
    (h1 : WE X E B Γ e1 R m1) (h2 : WE X E B Γ e2 S m2) : WE X E B Γ (.BinOp e1 op e2 pos) W (m1 >>= fun a => m2 >>= fun b => f a b) :=
  fun σ F H ω Q e p => ⟨_, pe_op ho pe_s pe_s, two_ h1 h2 hr e p⟩
theorem we_cmp {op : CmpOp} {r : R2} (ho : OpR X (compareOp op) r) {e1 e2 : Expr} {α β γ : Type} {R : Rl α} {S : Rl β} {W : Rl γ} {f : α → β → Out γ} {m1 : Out α} {m2 : Out β} {pos : Pos} (hr : VOp X.K r R S W f) (hm : behindInMarks op e2 = false)
    (h1 : WE X E B Γ e1 R m1) (h2 : WE X E B Γ e2 S m2) : WE X E B Γ (.Compare e1 [op] [e2] pos) W (m1 >>= fun a => m2 >>= fun b => f a b) :=
  fun σ F H ω Q e p => ⟨_, pe_cmpR ho pe_s pe_s hm, two_ h1 h2 hr e p⟩
theorem wt_cmp {op : CmpOp} {r : R2} (ho : OpR X (compareOp op) r) {e1 e2 : Expr} {α β : Type} {R : Rl α} {S : Rl β} {f : α → β → Out Bool} {m1 : Out α} {m2 : Out β} {pos : Pos} (hr : VOp X.K r R S tBool.rl f) (hm : behindInMarks op e2 = false)
    (h1 : WE X E B Γ e1 R m1) (h2 : WE X E B Γ e2 S m2) : WT X E B Γ (.Compare e1 [op] [e2] pos) (m1 >>= fun a => m2 >>= fun b => f a b) :=
  fun σ F H ω Q e p => ⟨_, pt_cmpR ho pe_s pe_s hm, two_ (W := tBool.rl) h1 h2 hr e (p.imp fun c q v F' H' s r => ⟨c, r, q F' H' s⟩)⟩
/-- the two are known -/
theorem we_opP {op : Operator} {r : R2} (ho : OpR X (binaryOp op) r) {e1 e2 : Expr} {α β γ : Type} {R : Rl α} {S : Rl β} {W : Rl γ} {f : α → β → Out γ} {a : α} {b : β} {pos : Pos} (hr : VOp X.K r R S W f)
    (h1 : WE X E B Γ e1 R (pure a)) (h2 : WE X E B Γ e2 S (pure b)) : WE X E B Γ (.BinOp e1 op e2 pos) W (f a b) := we_op ho hr h1 h2

section
variable {K : PySem.W.Frag}
theorem v_I0 {g : Int → Int → Int} : VOp K (rI0 fun i j => .int (g i j)) tInt.rl tInt.rl tInt.rl (fun i j => pure (g i j)) := fun F H x y a b Q J s h1 h2 p => ⟨a, b, h1, h2, p _ F H (Stp.refl s) rfl⟩
theorem v_B0 {g : Int → Int → Bool} : VOp K (rI0 fun i j => .bl (g i j)) tInt.rl tInt.rl tBool.rl (fun i j => pure (g i j)) := fun F H x y a b Q J s h1 h2 p => ⟨a, b, h1, h2, p _ F H (Stp.refl s) rfl⟩
theorem v_I {C : Int → Int → Prop} [∀ i j, Decidable (C i j)] {g : Int → Int → Int} : VOp K (rI C fun i j => .int (g i j)) tInt.rl tInt.rl tInt.rl (fun i j => if C i j then pure (g i j) else .stuck) := fun F H x y a b Q J s h1 h2 p => by
  dsimp only at p
  by_cases c : C a b
  · rw [if_pos c] at p
    exact ⟨a, b, h1, h2, c, p _ F H (Stp.refl s) rfl⟩
  · rw [if_neg c] at p
    exact p.elim
instance (i j : Int) : Decidable (CDiv i j) := by unfold CDiv; infer_instance
instance (i j : Int) : Decidable (CMul i j) := by unfold CMul; infer_instance
instance (i j : Int) : Decidable (CPow i j) := by unfold CPow; infer_instance
end
/-- the rests and quotients by what is above 0, products -/
def mulO (i j : Int) : Out Int := if CMul i j then pure (i * j) else .stuck
def divO (i j : Int) : Out Int := if CDiv i j then pure (i / j) else .stuck
def modO (i j : Int) : Out Int := if 0 < j then pure (i % j) else .stuck
def powO (i j : Int) : Out Int := if CPow i j then pure (i ^ j.toNat) else .stuck
section
variable {e1 e2 : Expr} {m1 m2 : Out Int} {a b : Int} {pos : Pos}
theorem we_add (h1 : WE X E B Γ e1 tInt.rl m1) (h2 : WE X E B Γ e2 tInt.rl m2) : WE X E B Γ (.BinOp e1 .Add e2 pos) tInt.rl (m1 >>= fun a => m2 >>= fun b => pure (a + b)) := we_op op_add v_I0 h1 h2
theorem we_addP (h1 : WE X E B Γ e1 tInt.rl (pure a)) (h2 : WE X E B Γ e2 tInt.rl (pure b)) : WE X E B Γ (.BinOp e1 .Add e2 pos) tInt.rl (pure (a + b)) := we_op op_add v_I0 h1 h2
theorem we_sub (h1 : WE X E B Γ e1 tInt.rl m1) (h2 : WE X E B Γ e2 tInt.rl m2) : WE X E B Γ (.BinOp e1 .Sub e2 pos) tInt.rl (m1 >>= fun a => m2 >>= fun b => pure (a - b)) := we_op op_sub v_I0 h1 h2
theorem we_subP (h1 : WE X E B Γ e1 tInt.rl (pure a)) (h2 : WE X E B Γ e2 tInt.rl (pure b)) : WE X E B Γ (.BinOp e1 .Sub e2 pos) tInt.rl (pure (a - b)) := we_op op_sub v_I0 h1 h2
theorem we_mul (h1 : WE X E B Γ e1 tInt.rl m1) (h2 : WE X E B Γ e2 tInt.rl m2) : WE X E B Γ (.BinOp e1 .Mult e2 pos) tInt.rl (m1 >>= fun a => m2 >>= fun b => mulO a b) := we_op op_mul v_I h1 h2
theorem we_div (h1 : WE X E B Γ e1 tInt.rl m1) (h2 : WE X E B Γ e2 tInt.rl m2) : WE X E B Γ (.BinOp e1 .FloorDiv e2 pos) tInt.rl (m1 >>= fun a => m2 >>= fun b => divO a b) := we_op op_fdiv v_I h1 h2
theorem we_mod (h1 : WE X E B Γ e1 tInt.rl m1) (h2 : WE X E B Γ e2 tInt.rl m2) : WE X E B Γ (.BinOp e1 .Mod e2 pos) tInt.rl (m1 >>= fun a => m2 >>= fun b => modO a b) := we_op op_mod v_I h1 h2
theorem we_pow (h1 : WE X E B Γ e1 tInt.rl m1) (h2 : WE X E B Γ e2 tInt.rl m2) : WE X E B Γ (.BinOp e1 .Pow e2 pos) tInt.rl (m1 >>= fun a => m2 >>= fun b => powO a b) := we_op op_pow v_I h1 h2
theorem mulO_r {i j : Int} (h : (decide (-(2 ^ 64) < j) && decide (j < 2 ^ 64)) = true) : mulO i j = pure (i * j) := by
  simp only [Bool.and_eq_true, decide_eq_true_eq] at h
  exact if_pos (.inr h)
theorem mulO_l {i j : Int} (h : (decide (-(2 ^ 64) < i) && decide (i < 2 ^ 64)) = true) : mulO i j = pure (i * j) := by
  simp only [Bool.and_eq_true, decide_eq_true_eq] at h
  exact if_pos (.inl h)
theorem divO_l {i j : Int} (h : (decide (0 < j) && decide (j < 1073741824)) = true) : divO i j = pure (i / j) := by
  simp only [Bool.and_eq_true, decide_eq_true_eq] at h
  exact if_pos h
theorem modO_l {i j : Int} (h : decide (0 < j) = true) : modO i j = pure (i % j) := if_pos (of_decide_eq_true h)
theorem powO_l {i j n : Int} (h : (decide (CPow i j) && decide (i ^ j.toNat = n)) = true) : powO i j = pure n := by
  simp only [Bool.and_eq_true, decide_eq_true_eq] at h
  rw [powO, if_pos h.1, h.2]
/-- by written numbers -/
theorem we_mulR (h1 : WE X E B Γ e1 tInt.rl m1) (h2 : WE X E B Γ e2 tInt.rl (pure b)) (h : (decide (-(2 ^ 64) < b) && decide (b < 2 ^ 64)) = true := by rfl) : WE X E B Γ (.BinOp e1 .Mult e2 pos) tInt.rl (m1 >>= fun a => pure (a * b)) :=
  (we_mul h1 h2).cast (congrArg (Out.bind m1) (funext fun a => mulO_r h))
theorem we_mulL (h1 : WE X E B Γ e1 tInt.rl (pure a)) (h2 : WE X E B Γ e2 tInt.rl m2) (h : (decide (-(2 ^ 64) < a) && decide (a < 2 ^ 64)) = true := by rfl) : WE X E B Γ (.BinOp e1 .Mult e2 pos) tInt.rl (m2 >>= fun b => pure (a * b)) :=
  (we_mul h1 h2).cast (congrArg (Out.bind m2) (funext fun b => mulO_l h))
theorem we_divR (h1 : WE X E B Γ e1 tInt.rl m1) (h2 : WE X E B Γ e2 tInt.rl (pure b)) (h : (decide (0 < b) && decide (b < 1073741824)) = true := by rfl) : WE X E B Γ (.BinOp e1 .FloorDiv e2 pos) tInt.rl (m1 >>= fun a => pure (a / b)) :=
  (we_div h1 h2).cast (congrArg (Out.bind m1) (funext fun a => divO_l h))
theorem we_modR (h1 : WE X E B Γ e1 tInt.rl m1) (h2 : WE X E B Γ e2 tInt.rl (pure b)) (h : decide (0 < b) = true := by rfl) : WE X E B Γ (.BinOp e1 .Mod e2 pos) tInt.rl (m1 >>= fun a => pure (a % b)) :=
  (we_mod h1 h2).cast (congrArg (Out.bind m1) (funext fun a => modO_l h))
theorem we_powL (n : Int) (h1 : WE X E B Γ e1 tInt.rl (pure a)) (h2 : WE X E B Γ e2 tInt.rl (pure b)) (h : (decide (CPow a b) && decide (a ^ b.toNat = n)) = true := by decide +kernel) : WE X E B Γ (.BinOp e1 .Pow e2 pos) tInt.rl (pure n) :=
  (we_pow h1 h2).cast (powO_l h)
theorem we_lt (h1 : WE X E B Γ e1 tInt.rl m1) (h2 : WE X E B Γ e2 tInt.rl m2) : WE X E B Γ (.Compare e1 [.Lt] [e2] pos) tBool.rl (m1 >>= fun a => m2 >>= fun b => pure (decide (a < b))) := we_cmp op_lt v_B0 (nomark _) h1 h2
theorem we_le (h1 : WE X E B Γ e1 tInt.rl m1) (h2 : WE X E B Γ e2 tInt.rl m2) : WE X E B Γ (.Compare e1 [.LtE] [e2] pos) tBool.rl (m1 >>= fun a => m2 >>= fun b => pure (decide (a ≤ b))) := we_cmp op_le v_B0 (nomark _) h1 h2
theorem we_gt (h1 : WE X E B Γ e1 tInt.rl m1) (h2 : WE X E B Γ e2 tInt.rl m2) : WE X E B Γ (.Compare e1 [.Gt] [e2] pos) tBool.rl (m1 >>= fun a => m2 >>= fun b => pure (decide (b < a))) := we_cmp op_gt v_B0 (nomark _) h1 h2
theorem we_ge (h1 : WE X E B Γ e1 tInt.rl m1) (h2 : WE X E B Γ e2 tInt.rl m2) : WE X E B Γ (.Compare e1 [.GtE] [e2] pos) tBool.rl (m1 >>= fun a => m2 >>= fun b => pure (decide (b ≤ a))) := we_cmp op_ge v_B0 (nomark _) h1 h2
theorem wt_lt (h1 : WE X E B Γ e1 tInt.rl m1) (h2 : WE X E B Γ e2 tInt.rl m2) : WT X E B Γ (.Compare e1 [.Lt] [e2] pos) (m1 >>= fun a => m2 >>= fun b => pure (decide (a < b))) := wt_cmp op_lt v_B0 (nomark _) h1 h2
theorem wt_le (h1 : WE X E B Γ e1 tInt.rl m1) (h2 : WE X E B Γ e2 tInt.rl m2) : WT X E B Γ (.Compare e1 [.LtE] [e2] pos) (m1 >>= fun a => m2 >>= fun b => pure (decide (a ≤ b))) := wt_cmp op_le v_B0 (nomark _) h1 h2
theorem wt_gt (h1 : WE X E B Γ e1 tInt.rl m1) (h2 : WE X E B Γ e2 tInt.rl m2) : WT X E B Γ (.Compare e1 [.Gt] [e2] pos) (m1 >>= fun a => m2 >>= fun b => pure (decide (b < a))) := wt_cmp op_gt v_B0 (nomark _) h1 h2
theorem wt_ge (h1 : WE X E B Γ e1 tInt.rl m1) (h2 : WE X E B Γ e2 tInt.rl m2) : WT X E B Γ (.Compare e1 [.GtE] [e2] pos) (m1 >>= fun a => m2 >>= fun b => pure (decide (b ≤ a))) := wt_cmp op_ge v_B0 (nomark _) h1 h2
end
/-! == of scalars -/
/-- the values of a type are scalars that == tells apart as the data -/
def EqS {α : Type} [DecidableEq α] (T : Ty α) : Prop := ∀ K F x y a b, T.rel K F x a → T.rel K F y b → scal x y = true ∧ (decide (x = y) = decide (a = b))
theorem eqs_int : EqS tInt := fun K F x y a b h1 h2 => by
  rw [show x = .int a from h1, show y = .int b from h2]
  exact ⟨rfl, by simp⟩
theorem eqs_bool : EqS tBool := fun K F x y a b h1 h2 => by
  rw [show x = .bl a from h1, show y = .bl b from h2]
  exact ⟨rfl, by simp⟩
theorem eqs_str : EqS tStr := fun K F x y a b h1 h2 => by
  rw [show x = .str a from h1, show y = .str b from h2]
  exact ⟨rfl, by simp⟩
theorem eqs_optI : EqS (tOpt tInt) := fun K F x y a b h1 h2 => by
  cases a with
  | none =>
    rw [show x = .non from h1]
    cases b with
    | none =>
      rw [show y = .non from h2]
      exact ⟨rfl, by simp⟩
    | some j =>
      rw [show y = .int j from h2.2]
      exact ⟨rfl, by simp⟩
  | some i =>
    rw [show x = .int i from h1.2]
    cases b with
    | none =>
      rw [show y = .non from h2]
      exact ⟨rfl, by simp⟩
    | some j =>
      rw [show y = .int j from h2.2]
      exact ⟨rfl, by simp⟩
theorem v_eq {K : PySem.W.Frag} {α : Type} [DecidableEq α] {T : Ty α} (q : EqS T) : VOp K rEq T.rl T.rl tBool.rl (fun a b => pure (decide (a = b))) := fun F H x y a b Q J s h1 h2 p => by
  obtain ⟨q1, q2⟩ := q K F x y a b h1 h2
  exact ⟨q1, p _ F H (Stp.refl s) (by rw [q2] <;> rfl)⟩
theorem v_ne {K : PySem.W.Frag} {α : Type} [DecidableEq α] {T : Ty α} (q : EqS T) : VOp K rNe T.rl T.rl tBool.rl (fun a b => pure (!decide (a = b))) := fun F H x y a b Q J s h1 h2 p => by
  obtain ⟨q1, q2⟩ := q K F x y a b h1 h2
  exact ⟨q1, p _ F H (Stp.refl s) (by rw [q2] <;> rfl)⟩
section
variable {e1 e2 : Expr} {α : Type} [DecidableEq α] {T : Ty α} {m1 m2 : Out α} {pos : Pos}
theorem we_eq (q : EqS T) (h1 : WE X E B Γ e1 T.rl m1) (h2 : WE X E B Γ e2 T.rl m2) : WE X E B Γ (.Compare e1 [.Eq] [e2] pos) tBool.rl (m1 >>= fun a => m2 >>= fun b => pure (decide (a = b))) := we_cmp op_eq (v_eq q) (nomark _) h1 h2
theorem we_ne (q : EqS T) (h1 : WE X E B Γ e1 T.rl m1) (h2 : WE X E B Γ e2 T.rl m2) : WE X E B Γ (.Compare e1 [.NotEq] [e2] pos) tBool.rl (m1 >>= fun a => m2 >>= fun b => pure (!decide (a = b))) := we_cmp op_ne (v_ne q) (nomark _) h1 h2
theorem wt_eq (q : EqS T) (h1 : WE X E B Γ e1 T.rl m1) (h2 : WE X E B Γ e2 T.rl m2) : WT X E B Γ (.Compare e1 [.Eq] [e2] pos) (m1 >>= fun a => m2 >>= fun b => pure (decide (a = b))) := wt_cmp op_eq (v_eq q) (nomark _) h1 h2
theorem wt_ne (q : EqS T) (h1 : WE X E B Γ e1 T.rl m1) (h2 : WE X E B Γ e2 T.rl m2) : WT X E B Γ (.Compare e1 [.NotEq] [e2] pos) (m1 >>= fun a => m2 >>= fun b => pure (!decide (a = b))) := wt_cmp op_ne (v_ne q) (nomark _) h1 h2
end
/-- is None -/
theorem tOpt_non {K : PySem.W.Frag} {F : Hp} {α : Type} {T : Ty α} {x : V} {a : Option α} (h : (tOpt T).rel K F x a) : decide (x = .non) = a.isNone := by
  cases a with
  | none => rw [show x = .non from h]; rfl
  | some b => exact decide_eq_false h.1
theorem v_isN {K : PySem.W.Frag} {α : Type} {T : Ty α} : VOp K (fun x y H Q => y = .non ∧ Q (.bl (decide (x = .non))) H) (tOpt T).rl tNon.rl tBool.rl (fun a _ => pure a.isNone) := fun F H x y a b Q J s h1 h2 p => ⟨h2, p _ F H (Stp.refl s) (by rw [tOpt_non h1] <;> rfl)⟩
theorem v_notN {K : PySem.W.Frag} {α : Type} {T : Ty α} : VOp K (fun x y H Q => y = .non ∧ Q (.bl (!decide (x = .non))) H) (tOpt T).rl tNon.rl tBool.rl (fun a _ => pure a.isSome) := fun F H x y a b Q J s h1 h2 p => ⟨h2, p _ F H (Stp.refl s) (by
  rw [tOpt_non h1]
  cases a <;> rfl)⟩
section
variable {e1 e2 : Expr} {α : Type} {T : Ty α} {m1 : Out (Option α)} {j : Nat} {p2 pos : Pos}
theorem we_isN (h1 : WE X E B Γ e1 (tOpt T).rl m1) : WE X E B Γ (.Compare e1 [.Is] [.Constant .none j p2] pos) tBool.rl (m1 >>= fun a => pure a.isNone) := we_cmp op_isN v_isN (nomark _) h1 we_non
theorem we_notN (h1 : WE X E B Γ e1 (tOpt T).rl m1) : WE X E B Γ (.Compare e1 [.IsNot] [.Constant .none j p2] pos) tBool.rl (m1 >>= fun a => pure a.isSome) := we_cmp op_notN v_notN (nomark _) h1 we_non
theorem wt_isN (h1 : WE X E B Γ e1 (tOpt T).rl m1) : WT X E B Γ (.Compare e1 [.Is] [.Constant .none j p2] pos) (m1 >>= fun a => pure a.isNone) := wt_cmp op_isN v_isN (nomark _) h1 we_non
theorem wt_notN (h1 : WE X E B Γ e1 (tOpt T).rl m1) : WT X E B Γ (.Compare e1 [.IsNot] [.Constant .none j p2] pos) (m1 >>= fun a => pure a.isSome) := wt_cmp op_notN v_notN (nomark _) h1 we_non
end
/-- chains of two comparisons of ints: a op b op' c -/
theorem wt_chain {op op' : CmpOp} {g g' : Int → Int → Bool} (ho : OpR X (compareOp op) (rI0 fun i j => .bl (g i j))) (ho' : OpR X (compareOp op') (rI0 fun i j => .bl (g' i j))) {e1 e2 e3 : Expr} {m1 m2 m3 : Out Int} {pos : Pos}
    (h1 : WE X E B Γ e1 tInt.rl m1) (h2 : WE X E B Γ e2 tInt.rl m2) (h3 : WE X E B Γ e3 tInt.rl m3) (hm : lastMarks [op, op'] [e2, e3] = false := by with_unfolding_all rfl) :
    WT X E B Γ (.Compare e1 [op, op'] [e2, e3] pos) (m1 >>= fun a => m2 >>= fun b => if g a b = true then m3 >>= fun c => pure (g' b c) else pure false) := fun σ F H ω Q e p => by
  refine ⟨_, pt_chain ho ho' pe_s pe_s pe_s hm, ?_⟩
  refine h1 σ F H ω _ e (p.bind.imp fun a q v1 F1 H1 s1 r1 => ?_)
  refine h2 σ F1 H1 ω _ (e.stp s1) (q.bind.imp fun b q v2 F2 H2 s2 r2 => ?_)
  refine ⟨a, b, r1, r2, g a b, rfl, ?_⟩
  cases hg : g a b with
  | false =>
    rw [hg] at q
    exact ⟨false, rfl, q F2 H2 (s1.trans s2)⟩
  | true =>
    rw [hg] at q
    refine h3 σ F2 H2 ω _ ((e.stp s1).stp s2) (Post.imp (Post.bind q) fun c q v3 F3 H3 s3 r3 => ?_)
    exact ⟨b, c, r2, r3, g' b c, rfl, q F3 H3 ((s1.trans s2).trans s3)⟩
theorem we_chain {op op' : CmpOp} {g g' : Int → Int → Bool} (ho : OpR X (compareOp op) (rI0 fun i j => .bl (g i j))) (ho' : OpR X (compareOp op') (rI0 fun i j => .bl (g' i j))) {e1 e2 e3 : Expr} {m1 m2 m3 : Out Int} {pos : Pos}
    (h1 : WE X E B Γ e1 tInt.rl m1) (h2 : WE X E B Γ e2 tInt.rl m2) (h3 : WE X E B Γ e3 tInt.rl m3) (hm : lastMarks [op, op'] [e2, e3] = false := by with_unfolding_all rfl) :
    WE X E B Γ (.Compare e1 [op, op'] [e2, e3] pos) tBool.rl (m1 >>= fun a => m2 >>= fun b => if g a b = true then m3 >>= fun c => pure (g' b c) else pure false) := fun σ F H ω Q e p => by
  refine ⟨_, pe_chain ho ho' pe_s pe_s pe_s hm, ?_⟩
  refine h1 σ F H ω _ e (p.bind.imp fun a q v1 F1 H1 s1 r1 => ?_)
  refine h2 σ F1 H1 ω _ (e.stp s1) (q.bind.imp fun b q v2 F2 H2 s2 r2 => ?_)
  refine ⟨a, b, r1, r2, g a b, rfl, ?_⟩
  cases hg : g a b with
  | false =>
    rw [hg] at q
    exact q _ F2 H2 (s1.trans s2) rfl
  | true =>
    rw [hg] at q
    refine h3 σ F2 H2 ω _ ((e.stp s1).stp s2) (Post.imp (Post.bind q) fun c q v3 F3 H3 s3 r3 => ?_)
    exact ⟨b, c, r2, r3, q _ F3 H3 ((s1.trans s2).trans s3) rfl⟩

/-! ### tests -/
/-- any expression that is a bool, as a test -/
theorem wt_val {e : Expr} {m : Out Bool} (h : WE X E B Γ e tBool.rl m) (he : ∀ whole, isTrue e X.env whole = (do let v ← whole; standAt e.pos; holding [v] (truthy v)) := by intro _; rfl) : WT X E B Γ e m :=
  fun σ F H ω Q en p => ⟨_, pt_val pe_s he, h σ F H ω _ en (p.imp fun b q v F' H' s r => ⟨b, r, q F' H' s⟩)⟩
theorem wt_not {e : Expr} {m : Out Bool} {pos : Pos} (h : WT X E B Γ e m) : WT X E B Γ (.UnaryOp .Not e pos) (m >>= fun b => pure (!b)) :=
  fun σ F H ω Q en p => ⟨_, pt_not pt_s, h σ F H ω _ en (p.bind.imp fun b q F' H' s => q F' H' s)⟩
/-- and, or: WB tells the rest of the operands, whatever the whole is -/
def WB (X : Cx) (E : XK) (B : Bs) (Γ : List Slot) (e : Expr) (m : Out Bool) : Prop :=
  ∀ σ F H ω Q, EnvOk X.K B Γ σ F H ω → Post m (fun b => ∀ F' H', Stp F H F' H' → Q b H') (RB X.K B E) → ∃ t, PW X e t ∧ t σ H Q
theorem pw_s {e : Expr} : PW X e (fun σ H Q => ∃ t, PW X e t ∧ t σ H Q) := ⟨fun wh pins s σ H Q I ⟨_, p, h⟩ => p.run wh pins s σ H Q I h⟩
theorem wb_and1 {e : Expr} {m : Out Bool} {pos : Pos} (h : WT X E B Γ e m) : WB X E B Γ (.BoolOp .And [e] pos) m := fun σ F H ω Q en p => ⟨_, pw_and1 pt_s, h σ F H ω Q en p⟩
theorem wb_or1 {e : Expr} {m : Out Bool} {pos : Pos} (h : WT X E B Γ e m) : WB X E B Γ (.BoolOp .Or [e] pos) m := fun σ F H ω Q en p => ⟨_, pw_or1 pt_s, h σ F H ω Q en p⟩
theorem wb_and {a b : Expr} {rest : List Expr} {m n : Out Bool} {pos : Pos} (h1 : WT X E B Γ a m) (h2 : WB X E B Γ (.BoolOp .And (b :: rest) pos) n) : WB X E B Γ (.BoolOp .And (a :: b :: rest) pos) (m >>= fun c => if c = true then n else pure false) := fun σ F H ω Q en p => by
  refine ⟨_, pw_and pt_s pw_s, ?_⟩
  refine h1 σ F H ω _ en (p.bind.imp fun c q F1 H1 s1 => ?_)
  cases c with
  | true => exact h2 σ F1 H1 ω Q (en.stp s1) (Post.imp q fun b q F' H' s => q F' H' (s1.trans s))
  | false => exact q F1 H1 s1
theorem wb_or {a b : Expr} {rest : List Expr} {m n : Out Bool} {pos : Pos} (h1 : WT X E B Γ a m) (h2 : WB X E B Γ (.BoolOp .Or (b :: rest) pos) n) : WB X E B Γ (.BoolOp .Or (a :: b :: rest) pos) (m >>= fun c => if c = true then pure true else n) := fun σ F H ω Q en p => by
  refine ⟨_, pw_or pt_s pw_s, ?_⟩
  refine h1 σ F H ω _ en (p.bind.imp fun c q F1 H1 s1 => ?_)
  cases c with
  | false => exact h2 σ F1 H1 ω Q (en.stp s1) (Post.imp q fun b q F' H' s => q F' H' (s1.trans s))
  | true => exact q F1 H1 s1
theorem wt_b {e : Expr} {m : Out Bool} (h : WB X E B Γ e m) : WT X E B Γ e m := fun σ F H ω Q en p =>
  let ⟨_, q, r⟩ := h σ F H ω Q en p
  ⟨_, q.pt, r⟩
/-- .. as values, of bools -/
theorem we_bo1 {op : BoolOp} {e : Expr} {m : Out Bool} {pos : Pos} (h : WE X E B Γ e tBool.rl m) : WE X E B Γ (.BoolOp op [e] pos) tBool.rl m := fun σ F H ω Q en p => ⟨_, pe_one pe_s, h σ F H ω Q en p⟩
theorem we_and {a b : Expr} {rest : List Expr} {m n : Out Bool} {pos : Pos} (h1 : WE X E B Γ a tBool.rl m) (h2 : WE X E B Γ (.BoolOp .And (b :: rest) pos) tBool.rl n) : WE X E B Γ (.BoolOp .And (a :: b :: rest) pos) tBool.rl (m >>= fun c => if c = true then n else pure false) := fun σ F H ω Q en p => by
  refine ⟨_, pe_and pe_s pe_s, ?_⟩
  refine h1 σ F H ω _ en (p.bind.imp fun c q v F1 H1 s1 r => ⟨c, r, ?_⟩)
  cases c with
  | true => exact h2 σ F1 H1 ω Q (en.stp s1) (Post.imp q fun b q v F' H' s => q v F' H' (s1.trans s))
  | false => exact q _ F1 H1 s1 rfl
theorem we_or {a b : Expr} {rest : List Expr} {m n : Out Bool} {pos : Pos} (h1 : WE X E B Γ a tBool.rl m) (h2 : WE X E B Γ (.BoolOp .Or (b :: rest) pos) tBool.rl n) : WE X E B Γ (.BoolOp .Or (a :: b :: rest) pos) tBool.rl (m >>= fun c => if c = true then pure true else n) := fun σ F H ω Q en p => by
  refine ⟨_, pe_or pe_s pe_s, ?_⟩
  refine h1 σ F H ω _ en (p.bind.imp fun c q v F1 H1 s1 r => ⟨c, r, ?_⟩)
  cases c with
  | false => exact h2 σ F1 H1 ω Q (en.stp s1) (Post.imp q fun b q v F' H' s => q v F' H' (s1.trans s))
  | true => exact q _ F1 H1 s1 rfl
theorem we_not {e : Expr} {m : Out Bool} {pos : Pos} (h : WE X E B Γ e tBool.rl m) : WE X E B Γ (.UnaryOp .Not e pos) tBool.rl (m >>= fun b => pure (!b)) :=
  fun σ F H ω Q en p => ⟨_, pe_not pe_s, h σ F H ω _ en (p.bind.imp fun b q v F' H' s r => ⟨b, r, q _ F' H' s rfl⟩)⟩
theorem we_neg {e : Expr} {m : Out Int} {pos : Pos} (h : WE X E B Γ e tInt.rl m) : WE X E B Γ (.UnaryOp .USub e pos) tInt.rl (m >>= fun b => pure (-b)) :=
  fun σ F H ω Q en p => ⟨_, pe_un un_neg pe_s, h σ F H ω _ en (p.bind.imp fun b q v F' H' s r => ⟨b, r, q _ F' H' s rfl⟩)⟩
theorem we_if {c a b : Expr} {α : Type} {R : Rl α} {mc : Out Bool} {m n : Out α} {pos : Pos} (hc : WT X E B Γ c mc) (h1 : WE X E B Γ a R m) (h2 : WE X E B Γ b R n) : WE X E B Γ (.IfExp c a b pos) R (mc >>= fun t => if t = true then m else n) := fun σ F H ω Q en p => by
  refine ⟨_, pe_ifExp pt_s pe_s pe_s, ?_⟩
  refine hc σ F H ω _ en (p.bind.imp fun c q F1 H1 s1 => ?_)
  cases c with
  | true => exact h1 σ F1 H1 ω Q (en.stp s1) (Post.imp q fun b q v F' H' s => q v F' H' (s1.trans s))
  | false => exact h2 σ F1 H1 ω Q (en.stp s1) (Post.imp q fun b q v F' H' s => q v F' H' (s1.trans s))
/-- a sequence's truth -/
theorem fa2_empty {α : Type} {R : V → α → Prop} {vs : List V} {as : List α} (h : Fa2 R vs as) : vs.isEmpty = as.isEmpty := by cases h <;> rfl
theorem wt_lst {e : Expr} {α : Type} {T : Ty α} {m : Out (List α)} (h : WE X E B Γ e (rLst T) m) (he : ∀ whole, isTrue e X.env whole = (do let v ← whole; standAt e.pos; holding [v] (truthy v)) := by intro _; rfl) : WT X E B Γ e (m >>= fun a => pure (!a.isEmpty)) :=
  fun σ F H ω Q en p => ⟨_, pt_truth pe_s he, h σ F H ω _ en (p.bind.imp fun a q v F' H' s ⟨p, vs, e, sq, r⟩ => ⟨!vs.isEmpty, by subst e; exact .inl ⟨vs, sq, rfl⟩, by
    rw [fa2_empty r]
    exact q F' H' s⟩)⟩
theorem wt_tup {e : Expr} {α : Type} {T : Ty α} {m : Out (List α)} (h : WE X E B Γ e (tTup T).rl m) (he : ∀ whole, isTrue e X.env whole = (do let v ← whole; standAt e.pos; holding [v] (truthy v)) := by intro _; rfl) : WT X E B Γ e (m >>= fun a => pure (!a.isEmpty)) :=
  fun σ F H ω Q en p => ⟨_, pt_truth pe_s he, h σ F H ω _ en (p.bind.imp fun a q v F' H' s ⟨p, vs, e, sq, r⟩ => ⟨!vs.isEmpty, by subst e; exact .inr (.inl ⟨vs, seqT s.fh sq, rfl⟩), by
    rw [fa2_empty r]
    exact q F' H' s⟩)⟩
end SL

set_option Elab.async false
set_option linter.all false
set_option maxRecDepth 100000
set_option maxHeartbeats 2000000
/-! SLc: rules of the typed layer: built-in calls, sequences, displays. -/
namespace SL
open PySem PySem.Spec PyProof.Rows L2
variable {X : Cx} {N : List Str} {sc : Scp} {k : Nat} {E : XK} {B : Bs} {Γ : List Slot}

abbrev GlN (sc : Scp) (x : Str) : Prop := sc.sc.names.lookup x = some .globalImplicit
/-- names that the module leaves to the built-ins -/
structure Fre (mg : Str → Option Value) : Prop where
  len : mg "len" = none
  range : mg "range" = none
  int : mg "int" = none
  isinstance : mg "isinstance" = none
  list : mg "list" = none
  tuple : mg "tuple" = none
  enumerate : mg "enumerate" = none
  max : mg "max" = none
  min : mg "min" = none
  sorted : mg "sorted" = none
  set : mg "set" = none
  any : mg "any" = none
  all : mg "all" = none
  sum : mg "sum" = none
  zip : mg "zip" = none
  abs : mg "abs" = none
  bool : mg "bool" = none
  str : mg "str" = none
  VE : mg "ValueError" = none
  reversed : mg "reversed" = none
theorem gl_ (C : XC X N sc k E) {x : Str} (h : GlN sc x) : Gl X x := by
  unfold Gl Env.kindOf
  rw [C.scp]
  exact h

/-! ### lengths of what is tracked -/
def LenOk (H : Hp) : Prop := ∀ p vs, (Rd H p (.lst vs) ∨ Rd H p (.tup vs)) → vs.length ≤ sizeLine
theorem len_inv {pins : List (Addr × Obj)} {σ : L2.St} {H : Hp} {s : Shared} (I : Inv X pins σ H s) : LenOk H := fun p vs h => by
  rcases h with h | h
  · exact (h.ok I.hok).1
  · exact (h.ok I.hok).1
theorem pe_len {e : Expr} {t : TE} (h : PE X e t) : PE X e (fun σ H Q => LenOk H → t σ H Q) := ⟨fun pins s σ H Q I q => h.run pins s σ H Q I (q (len_inv I))⟩
theorem pe_lenQ {e : Expr} {t : TE} (h : PE X e t) : PE X e (fun σ H Q => t σ H fun v H' => LenOk H' → Q v H') := ⟨fun pins s σ H Q I q =>
  thn (h.run pins s σ H _ I q) fun u s' ⟨v, H', I', r, q'⟩ => ⟨v, H', I', r, q' (len_inv I')⟩⟩
theorem sE_lenQ {e : Expr} {σ : L2.St} {H : Hp} {Q : VK} (h : sE X e σ H fun v H' => LenOk H' → Q v H') : sE X e σ H Q := ⟨_, pe_lenQ pe_s, h⟩
theorem sqL_len {K : PySem.W.Frag} {H : Hp} {p : Addr} {vs : List V} (h : SqL K H p vs) (l : LenOk H) : vs.length ≤ sizeLine := by
  rcases h with h | ⟨o, its, n, h1, h2, h3, h4, h5, h6⟩
  · exact l p vs (.inl h)
  · have := h6.length
    rw [this, Array.length_toList]
    exact h5
theorem sqT_len {K : PySem.W.Frag} {H : Hp} {p : Addr} {vs : List V} (h : SqT K H p vs) (l : LenOk H) : vs.length ≤ sizeLine := by
  rcases h with h | ⟨o, its, n, h1, h2, h3, h5, h6⟩
  · exact l p vs (.inr h)
  · have := h6.length
    rw [this, Array.length_toList]
    exact h5

/-! ### arguments -/
theorem pa1 {e : Expr} (hs : starEach (e :: []) X.env = (false, eval e X.env) :: starEach [] X.env) : PA X [e] (tCons (sE X e) tNil) := pa_cons pe_s pa_nil hs
theorem pa2 {e e2 : Expr} (hs : starEach (e :: e2 :: []) X.env = (false, eval e X.env) :: starEach (e2 :: []) X.env) (hs2 : starEach (e2 :: []) X.env = (false, eval e2 X.env) :: starEach [] X.env) : PA X [e, e2] (tCons (sE X e) (tCons (sE X e2) tNil)) := pa_cons pe_s (pa_cons pe_s pa_nil hs2) hs
/-- a built-in's answer on one, on two values -/
def VC1 (K : PySem.W.Frag) (r : List V → Hp → VK → Prop) {α γ : Type} (R : Rl α) (W : Rl γ) (f : α → Out γ) : Prop :=
  ∀ (F H : Hp) (x : V) (a : α) (Q : VK) (J : Err → Prop), Same F H → R.rel K F H x a → Post (f a) (fun c => ∀ v F' H', Stp F H F' H' → W.rel K F' H' v c → Q v H') J → r [x] H Q
def VC2 (K : PySem.W.Frag) (r : List V → Hp → VK → Prop) {α β γ : Type} (R : Rl α) (S : Rl β) (W : Rl γ) (f : α → β → Out γ) : Prop :=
  ∀ (F H : Hp) (x y : V) (a : α) (b : β) (Q : VK) (J : Err → Prop), Same F H → R.rel K F H x a → S.rel K F H y b → Post (f a b) (fun c => ∀ v F' H', Stp F H F' H' → W.rel K F' H' v c → Q v H') J → r [x, y] H Q
/-- .. that is new -/
def NC1 (K : PySem.W.Frag) (r : List V → Hp → VK → Prop) {α γ : Type} (R : Rl α) (O : Own γ) (f : α → Out γ) : Prop :=
  ∀ (F H : Hp) (x : V) (a : α) (Q : VK) (J : Err → Prop), Same F H → R.rel K F H x a → Post (f a) (fun c => ∀ v F' H' S, Stp F H F' H' → (∀ p, S p → F' p = none ∧ H' p ≠ none ∧ H p = none) → O.rel K F' H' S v c → Q v H') J → r [x] H Q
section
variable {x : Str} {id T : String} {r : List V → Hp → VK → Prop} {e e2 : Expr} {α β γ : Type} {R : Rl α} {S : Rl β} {W : Rl γ} {O : Own γ} {f : α → Out γ} {g : α → β → Out γ} {m : Out α} {m2 : Out β} {p pos : Pos}
theorem stp_none {F H F' H' : Hp} (s : Stp F H F' H') {p : Addr} (h : H' p = none) : H p = none := s.hh.free h
theorem cb1 (C : XC X N sc k E) (hc : CallR X (.builtin id) r) (hm : X.mg x = none) (hv : bootBuiltins x = some (.builtin id)) (hr : VC1 X.K r R W f) (h : WE X E B Γ e R m) (hg : GlN sc x)
    (hn : x ≠ "__name__" := by decide) (hdb : (x == ("__debug__" : Str)) = false := by decide) (he : starEach (e :: []) X.env = (false, eval e X.env) :: starEach [] X.env := by rfl) :
    WE X E B Γ (.Call (.Name x p) [e] [] pos) W (m >>= f) := fun σ F H ω Q en q =>
  ⟨_, pe_callB hc (gl_ C hg) hm hv (pa1 he) hn hdb he, h σ F H ω _ en (q.bind.imp fun a q v F' H' s rv => hr F' H' v a Q _ s.fh rv (q.imp fun c q v' F2 H2 s2 r2 => q v' F2 H2 (s.trans s2) r2))⟩
theorem ct1 (C : XC X N sc k E) (hc : CallR X (.type T) r) (hm : X.mg x = none) (hv : bootBuiltins x = some (.type T)) (hr : VC1 X.K r R W f) (h : WE X E B Γ e R m) (hg : GlN sc x)
    (hn : x ≠ "__name__" := by decide) (hdb : (x == ("__debug__" : Str)) = false := by decide) (he : starEach (e :: []) X.env = (false, eval e X.env) :: starEach [] X.env := by rfl) :
    WE X E B Γ (.Call (.Name x p) [e] [] pos) W (m >>= f) := fun σ F H ω Q en q =>
  ⟨_, pe_callTy hc (gl_ C hg) hm hv (pa1 he) hn hdb he, h σ F H ω _ en (q.bind.imp fun a q v F' H' s rv => hr F' H' v a Q _ s.fh rv (q.imp fun c q v' F2 H2 s2 r2 => q v' F2 H2 (s.trans s2) r2))⟩
theorem cb2 (C : XC X N sc k E) (hc : CallR X (.builtin id) r) (hm : X.mg x = none) (hv : bootBuiltins x = some (.builtin id)) (hr : VC2 X.K r R S W g) (h : WE X E B Γ e R m) (h2 : WE X E B Γ e2 S m2) (hg : GlN sc x)
    (hn : x ≠ "__name__" := by decide) (hdb : (x == ("__debug__" : Str)) = false := by decide) (he : starEach (e :: e2 :: []) X.env = (false, eval e X.env) :: starEach (e2 :: []) X.env := by rfl)
    (he2 : starEach (e2 :: []) X.env = (false, eval e2 X.env) :: starEach [] X.env := by rfl) (hpl : (backTo pos (starEach (e2 :: []) X.env)).any (·.1) = false := by rfl) :
    WE X E B Γ (.Call (.Name x p) [e, e2] [] pos) W (m >>= fun a => m2 >>= fun b => g a b) := fun σ F H ω Q en q =>
  ⟨_, pe_callB hc (gl_ C hg) hm hv (pa2 he he2) hn hdb he hpl, h σ F H ω _ en (q.bind.imp fun a q v F' H' s rv => h2 σ F' H' ω _ (en.stp s) (q.bind.imp fun b q v2 F2 H2 s2 rv2 =>
    hr F2 H2 v v2 a b Q _ s2.fh (R.mono s2 rv) rv2 (q.imp fun c q v' F3 H3 s3 r3 => q v' F3 H3 ((s.trans s2).trans s3) r3)))⟩
theorem new_of {F H F' H' F2 H2 : Hp} {S : Addr → Prop} (s : Stp F H F' H') (d : ∀ p, S p → F2 p = none ∧ H2 p ≠ none ∧ H' p = none) : ∀ p, S p → F2 p = none ∧ H2 p ≠ none ∧ H p = none := fun p hp => ⟨(d p hp).1, (d p hp).2.1, stp_none s (d p hp).2.2⟩
theorem cbO (C : XC X N sc k E) (hc : CallR X (.builtin id) r) (hm : X.mg x = none) (hv : bootBuiltins x = some (.builtin id)) (hr : NC1 X.K r R O f) (h : WE X E B Γ e R m) (hg : GlN sc x)
    (hn : x ≠ "__name__" := by decide) (hdb : (x == ("__debug__" : Str)) = false := by decide) (he : starEach (e :: []) X.env = (false, eval e X.env) :: starEach [] X.env := by rfl) :
    WO X E B Γ (.Call (.Name x p) [e] [] pos) O (m >>= f) := fun σ F H ω Q en q =>
  ⟨_, pe_callB hc (gl_ C hg) hm hv (pa1 he) hn hdb he, h σ F H ω _ en (q.bind.imp fun a q v F' H' s rv => hr F' H' v a Q _ s.fh rv (q.imp fun c q v' F2 H2 S s2 d r2 => q v' F2 H2 S (s.trans s2) (new_of s d) r2))⟩
theorem ctO (C : XC X N sc k E) (hc : CallR X (.type T) r) (hm : X.mg x = none) (hv : bootBuiltins x = some (.type T)) (hr : NC1 X.K r R O f) (h : WE X E B Γ e R m) (hg : GlN sc x)
    (hn : x ≠ "__name__" := by decide) (hdb : (x == ("__debug__" : Str)) = false := by decide) (he : starEach (e :: []) X.env = (false, eval e X.env) :: starEach [] X.env := by rfl) :
    WO X E B Γ (.Call (.Name x p) [e] [] pos) O (m >>= f) := fun σ F H ω Q en q =>
  ⟨_, pe_callTy hc (gl_ C hg) hm hv (pa1 he) hn hdb he, h σ F H ω _ en (q.bind.imp fun a q v F' H' s rv => hr F' H' v a Q _ s.fh rv (q.imp fun c q v' F2 H2 S s2 d r2 => q v' F2 H2 S (s.trans s2) (new_of s d) r2))⟩
end
/-- a new list at a free place -/
theorem new_lst {K : PySem.W.Frag} {F H : Hp} {α : Type} {T : Ty α} {p : Addr} {vs : List V} {as : List α} (s : Same F H) (n : H p = none) (r : Fa2 (T.rel K F) vs as) {Q : VK}
    (q : ∀ v F' H' (S : Addr → Prop), Stp F H F' H' → (∀ p, S p → F' p = none ∧ H' p ≠ none ∧ H p = none) → (oLst T).rel K F' H' S v as → Q v H') : Q (.ref p) (upd H p (.lst vs)) :=
  q (.ref p) F _ (fun a => a = p) (Stp.newH s n) (fun a e => by
    subst e
    exact ⟨s.free n, (by rw [upd_same]; exact fun z => nomatch z), n⟩) ⟨p, vs, rfl, rfl, upd_same, r⟩
theorem new_tup {K : PySem.W.Frag} {F H : Hp} {α : Type} {T : Ty α} {p : Addr} {vs : List V} {as : List α} (s : Same F H) (n : H p = none) (r : Fa2 (T.rel K F) vs as) {Q : VK}
    (q : ∀ v F' H', Stp F H F' H' → (tTup T).rl.rel K F' H' v as → Q v H') : Q (.ref p) (upd H p (.tup vs)) :=
  q (.ref p) _ _ (Stp.new s n) ⟨p, vs, rfl, SqT.of upd_same, r.imp fun _ _ h => T.mono (Stp.new (o := .tup vs) s n).ff h⟩
theorem fa2_int {K : PySem.W.Frag} {F : Hp} {vs : List V} {as : List Int} (h : Fa2 (tInt.rel K F) vs as) : vs = as.map V.int := by
  induction h with
  | nil => rfl
  | cons r _ ih => rw [ih, show _ = _ from r] <;> rfl
theorem fa2_bl {K : PySem.W.Frag} {F : Hp} {vs : List V} {as : List Bool} (h : Fa2 (tBool.rel K F) vs as) : vs = as.map V.bl := by
  induction h with
  | nil => rfl
  | cons r _ ih => rw [ih, show _ = _ from r] <;> rfl
theorem int_fa2 {K : PySem.W.Frag} {F : Hp} (as : List Int) : Fa2 (tInt.rel K F) (as.map V.int) as := by
  induction as with
  | nil => exact .nil
  | cons a r ih => exact .cons rfl ih

/-! ### len, list, tuple, sum, any, all, max, min, abs, int, sorted -/
def maxL : List Int → Out Int
  | [] => .stuck
  | x :: xs => pure (xs.foldl max x)
def minL : List Int → Out Int
  | [] => .stuck
  | x :: xs => pure (xs.foldl min x)
theorem foldl_max (xs : List Int) : ∀ x : Int, (xs.foldl max x ∈ x :: xs) ∧ ∀ y ∈ x :: xs, y ≤ xs.foldl max x := by
  induction xs with
  | nil => intro x; exact ⟨by simp, by simp⟩
  | cons z r ih =>
    intro x
    obtain ⟨h1, h2⟩ := ih (max x z)
    rw [List.foldl_cons]
    constructor
    · rcases List.mem_cons.mp h1 with h | h
      · rw [h]
        rcases Int.le_total x z with q | q
        · rw [Int.max_eq_right q]; simp
        · rw [Int.max_eq_left q]; simp
      · simp [h]
    · intro y hy
      have hm := h2 (max x z) (by simp)
      rcases List.mem_cons.mp hy with h | h
      · subst h; omega
      · rcases List.mem_cons.mp h with h | h
        · subst h; omega
        · exact h2 y (by simp [h])
theorem foldl_min (xs : List Int) : ∀ x : Int, (xs.foldl min x ∈ x :: xs) ∧ ∀ y ∈ x :: xs, xs.foldl min x ≤ y := by
  induction xs with
  | nil => intro x; exact ⟨by simp, by simp⟩
  | cons z r ih =>
    intro x
    obtain ⟨h1, h2⟩ := ih (min x z)
    rw [List.foldl_cons]
    constructor
    · rcases List.mem_cons.mp h1 with h | h
      · rw [h]
        rcases Int.le_total x z with q | q
        · rw [Int.min_eq_left q]; simp
        · rw [Int.min_eq_right q]; simp
      · simp [h]
    · intro y hy
      have hm := h2 (min x z) (by simp)
      rcases List.mem_cons.mp hy with h | h
      · subst h; omega
      · rcases List.mem_cons.mp h with h | h
        · subst h; omega
        · exact h2 y (by simp [h])
def sortI (xs : List Int) : List Int := xs.mergeSort (fun a b => decide (a ≤ b))
theorem sortI_perm (xs : List Int) : (sortI xs).Perm xs := List.mergeSort_perm _ _
theorem sortI_sorted (xs : List Int) : (sortI xs).Pairwise (· ≤ ·) := by
  have h := List.pairwise_mergeSort (le := fun a b : Int => decide (a ≤ b)) (fun a b c h1 h2 => by simp only [decide_eq_true_eq] at *; omega) (fun a b => by simp only [Bool.or_eq_true, decide_eq_true_eq]; omega) xs
  exact h.imp fun h => of_decide_eq_true h
theorem sorted_uniq : ∀ {xs ys : List Int}, xs.Perm ys → xs.Pairwise (· ≤ ·) → ys.Pairwise (· ≤ ·) → xs = ys
  | [], ys, p, _, _ => p.nil_eq
  | x :: xs, ys, p, h1, h2 => by
    cases ys with
    | nil => exact absurd p.length_eq (by simp)
    | cons y ys =>
      have hx : x ∈ y :: ys := p.mem_iff.mp (by simp)
      have hy : y ∈ x :: xs := p.mem_iff.mpr (by simp)
      have e : x = y := by
        have a1 : x ≤ y := by
          rcases List.mem_cons.mp hy with h | h
          · omega
          · exact (List.pairwise_cons.mp h1).1 y h
        have a2 : y ≤ x := by
          rcases List.mem_cons.mp hx with h | h
          · omega
          · exact (List.pairwise_cons.mp h2).1 x h
        omega
      subst e
      rw [sorted_uniq (List.Perm.cons_inv p) (List.pairwise_cons.mp h1).2 (List.pairwise_cons.mp h2).2]
section
variable {e e2 : Expr} {α : Type} {T : Ty α} {m : Out (List α)} {mi mj : Out Int} {ml : Out (List Int)} {mb : Out (List Bool)} {p pos : Pos}
theorem we_lenL (C : XC X N sc k E) (Z : Fre X.mg) (h : WE X E B Γ e (rLst T) m) (hg : GlN sc "len" := by rfl) (he : starEach (e :: []) X.env = (false, eval e X.env) :: starEach [] X.env := by rfl) :
    WE X E B Γ (.Call (.Name "len" p) [e] [] pos) tInt.rl (m >>= fun a => pure (a.length : Int)) :=
  cb1 (R := (rLst T)) C call_len_seq Z.len boot_len (fun F H x a Q J s ⟨p, vs, e, q, r⟩ po => ⟨p, vs, by rw [e], .inl q, by rw [r.len]; exact po _ F H (Stp.refl s) rfl⟩) h hg (he := he)
theorem we_lenT (C : XC X N sc k E) (Z : Fre X.mg) (h : WE X E B Γ e (tTup T).rl m) (hg : GlN sc "len" := by rfl) (he : starEach (e :: []) X.env = (false, eval e X.env) :: starEach [] X.env := by rfl) :
    WE X E B Γ (.Call (.Name "len" p) [e] [] pos) tInt.rl (m >>= fun a => pure (a.length : Int)) :=
  cb1 (R := (tTup T).rl) C call_len_seq Z.len boot_len (fun F H x a Q J s ⟨p, vs, e, q, r⟩ po => ⟨p, vs, by rw [e], .inr (seqT s q), by rw [r.len]; exact po _ F H (Stp.refl s) rfl⟩) h hg (he := he)
theorem wo_list (C : XC X N sc k E) (Z : Fre X.mg) (h : WE X E B Γ e (rLst T) m) (hg : GlN sc "list" := by rfl) (he : starEach (e :: []) X.env = (false, eval e X.env) :: starEach [] X.env := by rfl) :
    WO X E B Γ (.Call (.Name "list" p) [e] [] pos) (oLst T) (m >>= fun a => pure a) :=
  ctO (R := (rLst T)) C call_list_of Z.list (by decide +kernel) (fun F H x a Q J s ⟨p, vs, e, q, r⟩ po => ⟨p, vs, by rw [e], .inl q, fun l hl => new_lst s hl r po⟩) h hg (he := he)
theorem wo_listT (C : XC X N sc k E) (Z : Fre X.mg) (h : WE X E B Γ e (tTup T).rl m) (hg : GlN sc "list" := by rfl) (he : starEach (e :: []) X.env = (false, eval e X.env) :: starEach [] X.env := by rfl) :
    WO X E B Γ (.Call (.Name "list" p) [e] [] pos) (oLst T) (m >>= fun a => pure a) :=
  ctO (R := (tTup T).rl) C call_list_of Z.list (by decide +kernel) (fun F H x a Q J s ⟨p, vs, e, q, r⟩ po => ⟨p, vs, by rw [e], .inr (seqT s q), fun l hl => new_lst s hl r po⟩) h hg (he := he)
theorem we_tuple (C : XC X N sc k E) (Z : Fre X.mg) (h : WE X E B Γ e (rLst T) m) (hg : GlN sc "tuple" := by rfl) (he : starEach (e :: []) X.env = (false, eval e X.env) :: starEach [] X.env := by rfl) :
    WE X E B Γ (.Call (.Name "tuple" p) [e] [] pos) (tTup T).rl (m >>= fun a => pure a) :=
  ct1 (R := (rLst T)) C call_tuple_of Z.tuple (by decide +kernel) (fun F H x a Q J s ⟨p, vs, e, q, r⟩ po => ⟨p, vs, by rw [e], .inl ⟨q, fun l hl => new_tup s hl r po⟩⟩) h hg (he := he)
theorem we_tupleT (C : XC X N sc k E) (Z : Fre X.mg) (h : WE X E B Γ e (tTup T).rl m) (hg : GlN sc "tuple" := by rfl) (he : starEach (e :: []) X.env = (false, eval e X.env) :: starEach [] X.env := by rfl) :
    WE X E B Γ (.Call (.Name "tuple" p) [e] [] pos) (tTup T).rl (m >>= fun a => pure a) :=
  ct1 (R := (tTup T).rl) C call_tuple_of Z.tuple (by decide +kernel) (fun F H x a Q J s ⟨p, vs, e, q, r⟩ po => ⟨p, vs, by rw [e], .inr ⟨seqT s q, by
    subst e
    exact po _ F H (Stp.refl s) ⟨p, vs, rfl, q, r⟩⟩⟩) h hg (he := he)
theorem we_sum (C : XC X N sc k E) (Z : Fre X.mg) (h : WE X E B Γ e (rLst tInt) ml) (hg : GlN sc "sum" := by rfl) (he : starEach (e :: []) X.env = (false, eval e X.env) :: starEach [] X.env := by rfl) :
    WE X E B Γ (.Call (.Name "sum" p) [e] [] pos) tInt.rl (ml >>= fun a => pure a.sum) :=
  cb1 (R := (rLst tInt)) C (cr_sum C.calm) Z.sum (by decide +kernel) (fun F H x a Q J s ⟨p, vs, e, q, r⟩ po => ⟨p, a, by rw [e], by rw [← fa2_int r]; exact q, po _ F H (Stp.refl s) rfl⟩) h hg (he := he)
theorem we_any (C : XC X N sc k E) (Z : Fre X.mg) (h : WE X E B Γ e (rLst tBool) mb) (hg : GlN sc "any" := by rfl) (he : starEach (e :: []) X.env = (false, eval e X.env) :: starEach [] X.env := by rfl) :
    WE X E B Γ (.Call (.Name "any" p) [e] [] pos) tBool.rl (mb >>= fun a => pure (a.any id)) :=
  cb1 (R := (rLst tBool)) C (cr_any C.calm) Z.any (by decide +kernel) (fun F H x a Q J s ⟨p, vs, e, q, r⟩ po => ⟨p, a, by rw [e], by rw [← fa2_bl r]; exact q, po _ F H (Stp.refl s) rfl⟩) h hg (he := he)
theorem we_all (C : XC X N sc k E) (Z : Fre X.mg) (h : WE X E B Γ e (rLst tBool) mb) (hg : GlN sc "all" := by rfl) (he : starEach (e :: []) X.env = (false, eval e X.env) :: starEach [] X.env := by rfl) :
    WE X E B Γ (.Call (.Name "all" p) [e] [] pos) tBool.rl (mb >>= fun a => pure (a.all id)) :=
  cb1 (R := (rLst tBool)) C (cr_all C.calm) Z.all (by decide +kernel) (fun F H x a Q J s ⟨p, vs, e, q, r⟩ po => ⟨p, a, by rw [e], by rw [← fa2_bl r]; exact q, po _ F H (Stp.refl s) rfl⟩) h hg (he := he)
theorem we_maxL (C : XC X N sc k E) (Z : Fre X.mg) (h : WE X E B Γ e (rLst tInt) ml) (hg : GlN sc "max" := by rfl) (he : starEach (e :: []) X.env = (false, eval e X.env) :: starEach [] X.env := by rfl) :
    WE X E B Γ (.Call (.Name "max" p) [e] [] pos) tInt.rl (ml >>= maxL) :=
  cb1 (R := (rLst tInt)) C (cr_max C.calm) Z.max (by decide +kernel) (fun F H x a Q J s ⟨p, vs, e, q, r⟩ po => by
    cases a with
    | nil => exact po.elim
    | cons z zs =>
      refine ⟨p, z :: zs, by rw [e], by rw [← fa2_int r]; exact q, by simp, fun m h1 h2 => ?_⟩
      obtain ⟨g1, g2⟩ := foldl_max zs z
      have e2 : m = zs.foldl max z := Int.le_antisymm (g2 m h1) (h2 _ g1)
      rw [e2]
      exact po _ F H (Stp.refl s) rfl) h hg (he := he)
theorem we_minL (C : XC X N sc k E) (Z : Fre X.mg) (h : WE X E B Γ e (rLst tInt) ml) (hg : GlN sc "min" := by rfl) (he : starEach (e :: []) X.env = (false, eval e X.env) :: starEach [] X.env := by rfl) :
    WE X E B Γ (.Call (.Name "min" p) [e] [] pos) tInt.rl (ml >>= minL) :=
  cb1 (R := (rLst tInt)) C (cr_min C.calm) Z.min (by decide +kernel) (fun F H x a Q J s ⟨p, vs, e, q, r⟩ po => by
    cases a with
    | nil => exact po.elim
    | cons z zs =>
      refine ⟨p, z :: zs, by rw [e], by rw [← fa2_int r]; exact q, by simp, fun m h1 h2 => ?_⟩
      obtain ⟨g1, g2⟩ := foldl_min zs z
      have e2 : m = zs.foldl min z := Int.le_antisymm (h2 _ g1) (g2 m h1)
      rw [e2]
      exact po _ F H (Stp.refl s) rfl) h hg (he := he)
theorem we_max2 (C : XC X N sc k E) (Z : Fre X.mg) (h : WE X E B Γ e tInt.rl mi) (h2 : WE X E B Γ e2 tInt.rl mj) (hg : GlN sc "max" := by rfl) (he : starEach (e :: e2 :: []) X.env = (false, eval e X.env) :: starEach (e2 :: []) X.env := by rfl)
    (he2 : starEach (e2 :: []) X.env = (false, eval e2 X.env) :: starEach [] X.env := by rfl) (hpl : (backTo pos (starEach (e2 :: []) X.env)).any (·.1) = false := by rfl) :
    WE X E B Γ (.Call (.Name "max" p) [e, e2] [] pos) tInt.rl (mi >>= fun a => mj >>= fun b => pure (max a b)) :=
  cb2 C (call_max2 C.calm) Z.max (by decide +kernel) (fun F H x y a b Q J s h1 h2 po => ⟨a, b, by rw [show x = .int a from h1, show y = .int b from h2], by
    have e : (if b > a then b else a) = max a b := by
      by_cases c : b > a
      · rw [if_pos c]; omega
      · rw [if_neg c]; omega
    rw [e]
    exact po _ F H (Stp.refl s) rfl⟩) h h2 hg (he := he) (he2 := he2) (hpl := hpl)
theorem we_min2 (C : XC X N sc k E) (Z : Fre X.mg) (h : WE X E B Γ e tInt.rl mi) (h2 : WE X E B Γ e2 tInt.rl mj) (hg : GlN sc "min" := by rfl) (he : starEach (e :: e2 :: []) X.env = (false, eval e X.env) :: starEach (e2 :: []) X.env := by rfl)
    (he2 : starEach (e2 :: []) X.env = (false, eval e2 X.env) :: starEach [] X.env := by rfl) (hpl : (backTo pos (starEach (e2 :: []) X.env)).any (·.1) = false := by rfl) :
    WE X E B Γ (.Call (.Name "min" p) [e, e2] [] pos) tInt.rl (mi >>= fun a => mj >>= fun b => pure (min a b)) :=
  cb2 C (call_min2 C.calm) Z.min (by decide +kernel) (fun F H x y a b Q J s h1 h2 po => ⟨a, b, by rw [show x = .int a from h1, show y = .int b from h2], by
    have e : (if b < a then b else a) = min a b := by
      by_cases c : b < a
      · rw [if_pos c]; omega
      · rw [if_neg c]; omega
    rw [e]
    exact po _ F H (Stp.refl s) rfl⟩) h h2 hg (he := he) (he2 := he2) (hpl := hpl)
theorem we_abs (C : XC X N sc k E) (Z : Fre X.mg) (h : WE X E B Γ e tInt.rl mi) (hg : GlN sc "abs" := by rfl) (he : starEach (e :: []) X.env = (false, eval e X.env) :: starEach [] X.env := by rfl) :
    WE X E B Γ (.Call (.Name "abs" p) [e] [] pos) tInt.rl (mi >>= fun a => pure (if a < 0 then -a else a)) :=
  cb1 (R := tInt.rl) C call_abs Z.abs (by decide +kernel) (fun F H x a Q J s h1 po => ⟨a, by rw [show x = .int a from h1], po _ F H (Stp.refl s) rfl⟩) h hg (he := he)
theorem we_intI (C : XC X N sc k E) (Z : Fre X.mg) (h : WE X E B Γ e tInt.rl mi) (hg : GlN sc "int" := by rfl) (he : starEach (e :: []) X.env = (false, eval e X.env) :: starEach [] X.env := by rfl) :
    WE X E B Γ (.Call (.Name "int" p) [e] [] pos) tInt.rl (mi >>= fun a => pure a) :=
  ct1 (R := tInt.rl) C call_int1 Z.int boot_int (fun F H x a Q J s h1 po => .inl ⟨a, by rw [show x = .int a from h1], po _ F H (Stp.refl s) rfl⟩) h hg (he := he)
theorem we_intB {mb : Out Bool} (C : XC X N sc k E) (Z : Fre X.mg) (h : WE X E B Γ e tBool.rl mb) (hg : GlN sc "int" := by rfl) (he : starEach (e :: []) X.env = (false, eval e X.env) :: starEach [] X.env := by rfl) :
    WE X E B Γ (.Call (.Name "int" p) [e] [] pos) tInt.rl (mb >>= fun a => pure (if a = true then 1 else 0)) :=
  ct1 (R := tBool.rl) C call_int1 Z.int boot_int (fun F H x a Q J s h1 po => .inr ⟨a, by rw [show x = .bl a from h1], po _ F H (Stp.refl s) rfl⟩) h hg (he := he)
theorem wo_sorted (C : XC X N sc k E) (Z : Fre X.mg) (h : WE X E B Γ e (rLst tInt) ml) (hg : GlN sc "sorted" := by rfl) (he : starEach (e :: []) X.env = (false, eval e X.env) :: starEach [] X.env := by rfl) :
    WO X E B Γ (.Call (.Name "sorted" p) [e] [] pos) (oLst tInt) (ml >>= fun a => pure (sortI a)) :=
  cbO (R := (rLst tInt)) C cr_sortedI Z.sorted (by decide +kernel) (fun F H x a Q J s ⟨p, vs, e, q, r⟩ po => ⟨p, a, by rw [e], by rw [← fa2_int r]; exact q, fun ns' p' h1 h2 h3 => by
    have e2 : ns' = sortI a := sorted_uniq (h1.trans (sortI_perm a).symm) h2 (sortI_sorted a)
    rw [e2]
    exact new_lst s h3 (int_fa2 _) po⟩) h hg (he := he)
end

/-! ### subscripts -/
def idx {α : Type} (xs : List α) (i : Int) : Out α := match atI xs i with
  | some v => pure v
  | none => .stuck
theorem fa2_at {α : Type} {R : V → α → Prop} {vs : List V} {as : List α} (h : Fa2 R vs as) {i : Int} {a : α} (e : atI as i = some a) : ∃ v, atI vs i = some v ∧ R v a := by
  unfold atI at e ⊢
  rw [h.len]
  cases q : ixN as.length i with
  | none => rw [q] at e; cases e
  | some j =>
    rw [q] at e
    exact h.get (show as[j]? = some a from e)
theorem two_ix {r : R2} (hi : IxR X r) {e1 e2 : Expr} {α β γ : Type} {R : Rl α} {S : Rl β} {W : Rl γ} {f : α → β → Out γ} {m1 : Out α} {m2 : Out β} {pos : Pos} (hr : VOp X.K r R S W f)
    (h1 : WE X E B Γ e1 R m1) (h2 : WE X E B Γ e2 S m2) (hs : PlainIx e2) : WE X E B Γ (.Subscript e1 e2 pos) W (m1 >>= fun a => m2 >>= fun b => f a b) :=
  fun σ F H ω Q e p => ⟨_, pe_ix hi pe_s pe_s hs, two_ h1 h2 hr e p⟩
section
variable {e1 e2 : Expr} {α β γ : Type} {T : Ty α} {U : Ty β} {W : Ty γ} {m : Out (List α)} {mi : Out Int} {m2 : Out (α × β)} {m3 : Out (α × β × γ)} {pos p2 : Pos} {j : Nat}
theorem we_ixL (h1 : WE X E B Γ e1 (rLst T) m) (h2 : WE X E B Γ e2 tInt.rl mi) (hs : PlainIx e2 := by intro _ _; rfl) : WE X E B Γ (.Subscript e1 e2 pos) T.rl (m >>= fun a => mi >>= fun i => idx a i) :=
  two_ix (R := (rLst T)) (S := tInt.rl) ix_list (fun F H x y a b Q J s ⟨p, vs, e, q, r⟩ h2 po => by
    unfold idx at po
    cases q2 : atI a b with
    | none => rw [q2] at po; exact po.elim
    | some z =>
      rw [q2] at po
      obtain ⟨v, hv, rv⟩ := fa2_at r q2
      exact ⟨p, vs, b, v, e, h2, q, hv, po v F H (Stp.refl s) rv⟩) h1 h2 hs
theorem we_ixT (h1 : WE X E B Γ e1 (tTup T).rl m) (h2 : WE X E B Γ e2 tInt.rl mi) (hs : PlainIx e2 := by intro _ _; rfl) : WE X E B Γ (.Subscript e1 e2 pos) T.rl (m >>= fun a => mi >>= fun i => idx a i) :=
  two_ix (R := (tTup T).rl) (S := tInt.rl) ix_tup (fun F H x y a b Q J s ⟨p, vs, e, q, r⟩ h2 po => by
    unfold idx at po
    cases q2 : atI a b with
    | none => rw [q2] at po; exact po.elim
    | some z =>
      rw [q2] at po
      obtain ⟨v, hv, rv⟩ := fa2_at r q2
      exact ⟨p, vs, b, v, e, h2, seqT s q, hv, po v F H (Stp.refl s) rv⟩) h1 h2 hs
end
/-- a written int -/
def cI (i : Int) : Rl Unit := ⟨fun _ _ _ v _ => v = .int i, fun _ h => h⟩
theorem we_intC {i : Int} {j : Nat} {pos : Pos} : WE X E B Γ (.Constant (.int i) j pos) (cI i) (pure ()) := fun σ F H ω Q e p => ⟨_, pe_int, p _ F H (Stp.refl e.fh) rfl⟩
/-- the things of R are sequences with a T at place i -/
def PrjAt {α β : Type} (R : Rl α) (i : Int) (T : Ty β) (π : α → β) : Prop := ∀ K F H v a, Same F H → R.rel K F H v a → ∃ p vs w, v = .ref p ∧ (SqL K H p vs ∨ SqT K H p vs) ∧ atI vs i = some w ∧ T.rel K F w (π a)
theorem we_prj {e : Expr} {α β : Type} {R : Rl α} {T : Ty β} {π : α → β} {m : Out α} {i : Int} {j : Nat} {pos p2 : Pos} (hp : PrjAt R i T π) (h : WE X E B Γ e R m) : WE X E B Γ (.Subscript e (.Constant (.int i) j p2) pos) T.rl (m >>= fun a => pure (π a)) :=
  two_ix (R := R) (S := cI i) (m2 := pure ()) (f := fun a _ => pure (π a)) (ix_list.or ix_tup) (fun F H x y a b Q J s h1 h2 po => by
    obtain ⟨p, vs, w, e, q, hw, r⟩ := hp _ F H x a s h1
    rcases q with q | q
    · exact .inl ⟨p, vs, i, w, e, h2, q, hw, po w F H (Stp.refl s) r⟩
    · exact .inr ⟨p, vs, i, w, e, h2, q, hw, po w F H (Stp.refl s) r⟩) h we_intC (fun _ _ => rfl)
section
variable {α β γ δ : Type} {T : Ty α} {U : Ty β} {W : Ty γ} {V4 : Ty δ}
theorem pj10 : PrjAt (tT1 T).rl 0 T (fun a => a) := fun K F H v a s h => by
  obtain ⟨p, v1, e, q, r1⟩ := h
  exact ⟨p, _, v1, e, .inr (seqT s q), rfl, r1⟩
theorem pj20 : PrjAt (tT2 T U).rl 0 T (fun a => a.1) := fun K F H v a s h => by
  obtain ⟨p, v1, v2, e, q, r1, r2⟩ := h
  exact ⟨p, _, v1, e, .inr (seqT s q), rfl, r1⟩
theorem pj21 : PrjAt (tT2 T U).rl 1 U (fun a => a.2) := fun K F H v a s h => by
  obtain ⟨p, v1, v2, e, q, r1, r2⟩ := h
  exact ⟨p, _, v2, e, .inr (seqT s q), rfl, r2⟩
theorem pj30 : PrjAt (tT3 T U W).rl 0 T (fun a => a.1) := fun K F H v a s h => by
  obtain ⟨p, v1, v2, v3, e, q, r1, r2, r3⟩ := h
  exact ⟨p, _, v1, e, .inr (seqT s q), rfl, r1⟩
theorem pj31 : PrjAt (tT3 T U W).rl 1 U (fun a => a.2.1) := fun K F H v a s h => by
  obtain ⟨p, v1, v2, v3, e, q, r1, r2, r3⟩ := h
  exact ⟨p, _, v2, e, .inr (seqT s q), rfl, r2⟩
theorem pj32 : PrjAt (tT3 T U W).rl 2 W (fun a => a.2.2) := fun K F H v a s h => by
  obtain ⟨p, v1, v2, v3, e, q, r1, r2, r3⟩ := h
  exact ⟨p, _, v3, e, .inr (seqT s q), rfl, r3⟩
theorem pl20 : PrjAt (tL2 T U).rl 0 T (fun a => a.1) := fun K F H v a s h => by
  obtain ⟨p, v1, v2, e, q, r1, r2⟩ := h
  exact ⟨p, _, v1, e, .inl (SqL.of (s _ _ q)), rfl, r1⟩
theorem pl21 : PrjAt (tL2 T U).rl 1 U (fun a => a.2) := fun K F H v a s h => by
  obtain ⟨p, v1, v2, e, q, r1, r2⟩ := h
  exact ⟨p, _, v2, e, .inl (SqL.of (s _ _ q)), rfl, r2⟩
theorem pl30 : PrjAt (tL3 T U W).rl 0 T (fun a => a.1) := fun K F H v a s h => by
  obtain ⟨p, v1, v2, v3, e, q, r1, r2, r3⟩ := h
  exact ⟨p, _, v1, e, .inl (SqL.of (s _ _ q)), rfl, r1⟩
theorem pl31 : PrjAt (tL3 T U W).rl 1 U (fun a => a.2.1) := fun K F H v a s h => by
  obtain ⟨p, v1, v2, v3, e, q, r1, r2, r3⟩ := h
  exact ⟨p, _, v2, e, .inl (SqL.of (s _ _ q)), rfl, r2⟩
theorem pl32 : PrjAt (tL3 T U W).rl 2 W (fun a => a.2.2) := fun K F H v a s h => by
  obtain ⟨p, v1, v2, v3, e, q, r1, r2, r3⟩ := h
  exact ⟨p, _, v3, e, .inl (SqL.of (s _ _ q)), rfl, r3⟩
/-- a pair of two alike as a tuple, as a list -/
theorem t2_tup (K : PySem.W.Frag) (F H : Hp) (v : V) (a : α × α) (s : Same F H) (h : (tT2 T T).rl.rel K F H v a) : (tTup T).rl.rel K F H v [a.1, a.2] := by
  obtain ⟨p, v1, v2, e, q, r1, r2⟩ := h
  exact ⟨p, _, e, q, .cons r1 (.cons r2 .nil)⟩
theorem t3_tup (K : PySem.W.Frag) (F H : Hp) (v : V) (a : α × α × α) (s : Same F H) (h : (tT3 T T T).rl.rel K F H v a) : (tTup T).rl.rel K F H v [a.1, a.2.1, a.2.2] := by
  obtain ⟨p, v1, v2, v3, e, q, r1, r2, r3⟩ := h
  exact ⟨p, _, e, q, .cons r1 (.cons r2 (.cons r3 .nil))⟩
theorem l2_lst (K : PySem.W.Frag) (F H : Hp) (v : V) (a : α × α) (s : Same F H) (h : (tL2 T T).rl.rel K F H v a) : (tLst T).rl.rel K F H v [a.1, a.2] := by
  obtain ⟨p, v1, v2, e, q, r1, r2⟩ := h
  exact ⟨p, _, e, q, .cons r1 (.cons r2 .nil)⟩
end

/-! ### slices, joins -/
def cut {α : Type} (xs : List α) (lo hi : Option Int) : List α := (xs.drop (HT.sIx xs.length 0 lo)).take (HT.sIx xs.length xs.length hi - HT.sIx xs.length 0 lo)
theorem fa2_cut {α : Type} {R : V → α → Prop} {vs : List V} {as : List α} (h : Fa2 R vs as) (lo hi : Option Int) : Fa2 R (cutV vs lo hi) (cut as lo hi) := by
  unfold cutV cut
  rw [h.len]
  exact (h.drop _).take _
def sO (X : Cx) (e : Option Expr) : TO := fun σ H Q => ∃ t, PO X e t ∧ t σ H Q
theorem po_s {e : Option Expr} : PO X e (sO X e) := ⟨fun pins s σ H Q I ⟨_, p, h⟩ => p.run pins s σ H Q I h⟩
def WP (X : Cx) (E : XK) (B : Bs) (Γ : List Slot) (e : Option Expr) (m : Out (Option Int)) : Prop :=
  ∀ σ F H ω Q, EnvOk X.K B Γ σ F H ω → Post m (fun a => ∀ F' H', Stp F H F' H' → Q a H') (RB X.K B E) → sO X e σ H Q
theorem wp_no : WP X E B Γ none (pure none) := fun σ F H ω Q en p => ⟨_, po_none, p F H (Stp.refl en.fh)⟩
theorem wp_is {e : Expr} {m : Out Int} (h : WE X E B Γ e tInt.rl m) : WP X E B Γ (some e) (m >>= fun i => pure (some i)) := fun σ F H ω Q en p =>
  ⟨_, po_some pe_s, h σ F H ω _ en (p.bind.imp fun i q v F' H' s r => ⟨i, r, q F' H' s⟩)⟩
section
variable {e e2 : Expr} {lo hi : Option Expr} {α : Type} {T : Ty α} {m m2 : Out (List α)} {ml mh : Out (Option Int)} {mi : Out Int} {pos p2 : Pos}
theorem wo_cut (h : WE X E B Γ e (rLst T) m) (hl : WP X E B Γ lo ml) (hh : WP X E B Γ hi mh) : WO X E B Γ (.Subscript e (.Slice lo hi none p2) pos) (oLst T) (m >>= fun a => ml >>= fun l => mh >>= fun u => pure (cut a l u)) := fun σ F H ω Q en p => by
  refine ⟨_, pe_slice sl_list pe_s po_s po_s, ?_⟩
  refine h σ F H ω _ en (p.bind.imp fun a q v F1 H1 s1 r1 => ?_)
  refine hl σ F1 H1 ω _ (en.stp s1) (q.bind.imp fun l q F2 H2 s2 => ?_)
  refine hh σ F2 H2 ω _ ((en.stp s1).stp s2) (q.bind.imp fun u q F3 H3 s3 => ?_)
  obtain ⟨p, vs, e, sq, r⟩ := (rLst T).mono (s2.trans s3) r1
  exact ⟨p, vs, e, sq, fun d hd => new_lst s3.fh hd (fa2_cut r l u) fun v F4 H4 S s4 d r => q v F4 H4 S (((s1.trans s2).trans s3).trans s4) (new_of ((s1.trans s2).trans s3) d) r⟩
theorem we_cutT (h : WE X E B Γ e (tTup T).rl m) (hl : WP X E B Γ lo ml) (hh : WP X E B Γ hi mh) : WE X E B Γ (.Subscript e (.Slice lo hi none p2) pos) (tTup T).rl (m >>= fun a => ml >>= fun l => mh >>= fun u => pure (cut a l u)) := fun σ F H ω Q en p => by
  refine ⟨_, pe_slice sl_tupA pe_s po_s po_s, ?_⟩
  refine h σ F H ω _ en (p.bind.imp fun a q v F1 H1 s1 r1 => ?_)
  refine hl σ F1 H1 ω _ (en.stp s1) (q.bind.imp fun l q F2 H2 s2 => ?_)
  refine hh σ F2 H2 ω _ ((en.stp s1).stp s2) (q.bind.imp fun u q F3 H3 s3 => ?_)
  obtain ⟨p, vs, e, sq, r⟩ := (tTup T).mono (s2.trans s3).ff r1
  refine ⟨p, vs, e, seqT s3.fh sq, fun hw => ?_, fun hw d hd => new_tup s3.fh hd (fa2_cut r l u) fun v F4 H4 s4 r => q v F4 H4 (((s1.trans s2).trans s3).trans s4) r⟩
  refine q _ F3 H3 ((s1.trans s2).trans s3) ⟨p, vs, rfl, sq, ?_⟩
  have ew : cut a l u = a := by
    unfold cut
    rw [← r.len, hw.1, hw.2, List.drop_zero, Nat.sub_zero, r.len, List.take_length]
  rw [ew]
  exact r
/-- xs + ys -/
def catO {α : Type} (xs ys : List α) : Out (List α) := if xs.length + ys.length ≤ 16777216 then pure (xs ++ ys) else .stuck
theorem wo_cat (h : WE X E B Γ e (rLstH T) m) (h2 : WE X E B Γ e2 (rLstH T) m2) : WO X E B Γ (.BinOp e .Add e2 pos) (oLst T) (m >>= fun a => m2 >>= fun b => catO a b) := fun σ F H ω Q en p => by
  refine ⟨_, pe_op op_cat pe_s pe_s, ?_⟩
  refine h σ F H ω _ en (p.bind.imp fun a q v F1 H1 s1 r1 => ?_)
  refine h2 σ F1 H1 ω _ (en.stp s1) (q.bind.imp fun b q v2 F2 H2 s2 r2 => ?_)
  obtain ⟨p, vs, e, h1, r1⟩ := (rLstH T).mono s2 r1
  obtain ⟨p2, ws, e2, h2, r2⟩ := r2
  unfold catO at q
  by_cases c : a.length + b.length ≤ 16777216
  · rw [if_pos c] at q
    exact ⟨p, p2, vs, ws, e, e2, h1, h2, by rw [r1.len, r2.len, sizeLine_eq]; exact c, fun d hd => new_lst s2.fh hd (r1.app r2) fun v F4 H4 S s4 d r => q v F4 H4 S ((s1.trans s2).trans s4) (new_of (s1.trans s2) d) r⟩
  · rw [if_neg c] at q
    exact q.elim
theorem we_catT (h : WE X E B Γ e (tTup T).rl m) (h2 : WE X E B Γ e2 (tTup T).rl m2) : WE X E B Γ (.BinOp e .Add e2 pos) (tTup T).rl (m >>= fun a => m2 >>= fun b => catO a b) :=
  we_op (R := (tTup T).rl) (S := (tTup T).rl) op_catA (fun F H x y a b Q J s ⟨p, vs, e, q1, r1⟩ ⟨p2, ws, e2, q2, r2⟩ po => by
    unfold catO at po
    by_cases c : a.length + b.length ≤ 16777216
    · rw [if_pos c] at po
      refine ⟨p, p2, vs, ws, e, e2, seqT s q1, seqT s q2, by rw [r1.len, r2.len, sizeLine_eq]; exact c, fun z => ?_, fun z1 z2 => ?_, fun z1 z2 d hd => new_tup s hd (r1.app r2) po⟩
      · subst z
        cases r1
        exact po _ F H (Stp.refl s) ⟨p2, ws, rfl, q2, r2⟩
      · subst z2
        cases r2
        exact po _ F H (Stp.refl s) ⟨p, vs, rfl, q1, by rw [List.append_nil]; exact r1⟩
    · rw [if_neg c] at po
      exact po.elim) h h2
/-- xs * n -/
def repO {α : Type} (xs : List α) (n : Int) : Out (List α) := if 0 ≤ n ∧ (xs.length : Int) * n ≤ 16777216 ∧ n ≤ 16777216 then pure (List.replicate n.toNat xs).flatten else .stuck
theorem fa2_rep {α : Type} {R : V → α → Prop} {vs : List V} {as : List α} (h : Fa2 R vs as) : ∀ n : Nat, Fa2 R (List.replicate n vs).flatten (List.replicate n as).flatten
  | 0 => .nil
  | n + 1 => by
    rw [List.replicate_succ, List.replicate_succ, List.flatten_cons, List.flatten_cons]
    exact h.app (fa2_rep h n)
theorem wo_rep (h : WE X E B Γ e (rLstH T) m) (h2 : WE X E B Γ e2 tInt.rl mi) : WO X E B Γ (.BinOp e .Mult e2 pos) (oLst T) (m >>= fun a => mi >>= fun n => repO a n) := fun σ F H ω Q en p => by
  refine ⟨_, pe_op op_rep pe_s pe_s, ?_⟩
  refine h σ F H ω _ en (p.bind.imp fun a q v F1 H1 s1 r1 => ?_)
  refine h2 σ F1 H1 ω _ (en.stp s1) (q.bind.imp fun n q v2 F2 H2 s2 r2 => ?_)
  obtain ⟨p, vs, e, h1, r1⟩ := (rLstH T).mono s2 r1
  unfold repO at q
  by_cases c : 0 ≤ n ∧ (a.length : Int) * n ≤ 16777216 ∧ n ≤ 16777216
  · rw [if_pos c] at q
    refine ⟨p, n, vs, e, r2, h1, by omega, by omega, ?_, fun d hd => new_lst s2.fh hd (fa2_rep r1 _) fun v F4 H4 S s4 d r => q v F4 H4 S ((s1.trans s2).trans s4) (new_of (s1.trans s2) d) r⟩
    rw [r1.len, sizeLine_eq]
    have hn : ((n.toNat : Nat) : Int) = n := Int.toNat_of_nonneg c.1
    have := c.2.1
    rw [← hn] at this
    exact Int.ofNat_le.mp (by simpa using this)
  · rw [if_neg c] at q
    exact q.elim
/-- xs[::-1] -/
theorem wo_rev {j : Nat} {p1 p3 : Pos} (h : WE X E B Γ e (rLst T) m) : WO X E B Γ (.Subscript e (.Slice none none (some (.UnaryOp .USub (.Constant (.int 1) j p1) p2)) p3) pos) (oLst T) (m >>= fun a => pure a.reverse) := fun σ F H ω Q en p => by
  refine ⟨_, pe_revL pe_s, ?_⟩
  refine h σ F H ω _ en (p.bind.imp fun a q v F1 H1 s1 r1 => ?_)
  obtain ⟨p, vs, e, sq, r⟩ := r1
  exact ⟨p, vs, e, sq, fun d hd => new_lst s1.fh hd r.rev fun v F4 H4 S s4 d r => q v F4 H4 S (s1.trans s4) (new_of s1 d) r⟩
end

/-! ### in, not in -/
def EqF {α : Type} [DecidableEq α] (T : Ty α) : Prop := ∀ K F x y a b, T.rel K F x a → T.rel K F y b → flatV x = true ∧ eqV y x = decide (a = b)
theorem eqf_int : EqF tInt := fun K F x y a b h1 h2 => by
  rw [show x = .int a from h1, show y = .int b from h2]
  refine ⟨rfl, ?_⟩
  show (b == a) = decide (a = b)
  by_cases h : a = b
  · subst h; simp
  · simp [h, Ne.symm h]
theorem inV_eq {K : PySem.W.Frag} {F : Hp} {α : Type} [DecidableEq α] {T : Ty α} (q : EqF T) {x : V} {a : α} (hx : T.rel K F x a) : ∀ {vs : List V} {as : List α}, Fa2 (T.rel K F) vs as → vs.all flatV = true ∧ inV x vs = decide (a ∈ as)
  | _, _, .nil => ⟨rfl, by simp [inV]⟩
  | v :: vs, b :: as, .cons r t => by
    obtain ⟨h1, h2⟩ := inV_eq q hx t
    obtain ⟨f1, f2⟩ := q K F x v a b hx r
    obtain ⟨g1, _⟩ := q K F v x b a r hx
    refine ⟨by rw [List.all_cons, g1, h1] <;> rfl, ?_⟩
    unfold inV at h2 ⊢
    rw [List.any_cons, f2, h2]
    simp only [List.mem_cons]
    by_cases c : a = b <;> simp [c]
section
variable {e1 e2 : Expr} {α : Type} [DecidableEq α] {T : Ty α} {m1 : Out α} {m2 : Out (List α)} {pos : Pos}
theorem v_inL {K : PySem.W.Frag} (q : EqF T) : VOp K (rIn K false) T.rl (rLst T) tBool.rl (fun a as => pure (decide (a ∈ as))) := fun F H x y a b Q J s h1 ⟨p, vs, e, sq, r⟩ po => by
  obtain ⟨g1, g2⟩ := inV_eq q h1 r
  have fx : flatV x = true := (q _ F x x a a h1 h1).1
  exact ⟨p, vs, e, .inl sq, fx, g1, by rw [if_neg Bool.false_ne_true, g2]; exact po _ F H (Stp.refl s) rfl⟩
theorem v_inT {K : PySem.W.Frag} (q : EqF T) : VOp K (rIn K false) T.rl (tTup T).rl tBool.rl (fun a as => pure (decide (a ∈ as))) := fun F H x y a b Q J s h1 ⟨p, vs, e, sq, r⟩ po => by
  obtain ⟨g1, g2⟩ := inV_eq q h1 r
  have fx : flatV x = true := (q _ F x x a a h1 h1).1
  exact ⟨p, vs, e, .inr (seqT s sq), fx, g1, by rw [if_neg Bool.false_ne_true, g2]; exact po _ F H (Stp.refl s) rfl⟩
theorem v_niL {K : PySem.W.Frag} (q : EqF T) : VOp K (rIn K true) T.rl (rLst T) tBool.rl (fun a as => pure (!decide (a ∈ as))) := fun F H x y a b Q J s h1 ⟨p, vs, e, sq, r⟩ po => by
  obtain ⟨g1, g2⟩ := inV_eq q h1 r
  have fx : flatV x = true := (q _ F x x a a h1 h1).1
  exact ⟨p, vs, e, .inl sq, fx, g1, by rw [if_pos rfl, g2]; exact po _ F H (Stp.refl s) rfl⟩
theorem v_niT {K : PySem.W.Frag} (q : EqF T) : VOp K (rIn K true) T.rl (tTup T).rl tBool.rl (fun a as => pure (!decide (a ∈ as))) := fun F H x y a b Q J s h1 ⟨p, vs, e, sq, r⟩ po => by
  obtain ⟨g1, g2⟩ := inV_eq q h1 r
  have fx : flatV x = true := (q _ F x x a a h1 h1).1
  exact ⟨p, vs, e, .inr (seqT s sq), fx, g1, by rw [if_pos rfl, g2]; exact po _ F H (Stp.refl s) rfl⟩
theorem we_inL (q : EqF T) (h1 : WE X E B Γ e1 T.rl m1) (h2 : WE X E B Γ e2 (rLst T) m2) (hm : behindInMarks .In e2 = false := by with_unfolding_all rfl) : WE X E B Γ (.Compare e1 [.In] [e2] pos) tBool.rl (m1 >>= fun a => m2 >>= fun as => pure (decide (a ∈ as))) := we_cmp op_in_seq (v_inL q) hm h1 h2
theorem wt_inL (q : EqF T) (h1 : WE X E B Γ e1 T.rl m1) (h2 : WE X E B Γ e2 (rLst T) m2) (hm : behindInMarks .In e2 = false := by with_unfolding_all rfl) : WT X E B Γ (.Compare e1 [.In] [e2] pos) (m1 >>= fun a => m2 >>= fun as => pure (decide (a ∈ as))) := wt_cmp op_in_seq (v_inL q) hm h1 h2
theorem we_inT (q : EqF T) (h1 : WE X E B Γ e1 T.rl m1) (h2 : WE X E B Γ e2 (tTup T).rl m2) (hm : behindInMarks .In e2 = false := by with_unfolding_all rfl) : WE X E B Γ (.Compare e1 [.In] [e2] pos) tBool.rl (m1 >>= fun a => m2 >>= fun as => pure (decide (a ∈ as))) := we_cmp op_in_seq (v_inT q) hm h1 h2
theorem wt_inT (q : EqF T) (h1 : WE X E B Γ e1 T.rl m1) (h2 : WE X E B Γ e2 (tTup T).rl m2) (hm : behindInMarks .In e2 = false := by with_unfolding_all rfl) : WT X E B Γ (.Compare e1 [.In] [e2] pos) (m1 >>= fun a => m2 >>= fun as => pure (decide (a ∈ as))) := wt_cmp op_in_seq (v_inT q) hm h1 h2
theorem we_niL (q : EqF T) (h1 : WE X E B Γ e1 T.rl m1) (h2 : WE X E B Γ e2 (rLst T) m2) (hm : behindInMarks .NotIn e2 = false := by with_unfolding_all rfl) : WE X E B Γ (.Compare e1 [.NotIn] [e2] pos) tBool.rl (m1 >>= fun a => m2 >>= fun as => pure (!decide (a ∈ as))) := we_cmp op_notIn_seq (v_niL q) hm h1 h2
theorem wt_niL (q : EqF T) (h1 : WE X E B Γ e1 T.rl m1) (h2 : WE X E B Γ e2 (rLst T) m2) (hm : behindInMarks .NotIn e2 = false := by with_unfolding_all rfl) : WT X E B Γ (.Compare e1 [.NotIn] [e2] pos) (m1 >>= fun a => m2 >>= fun as => pure (!decide (a ∈ as))) := wt_cmp op_notIn_seq (v_niL q) hm h1 h2
theorem we_niT (q : EqF T) (h1 : WE X E B Γ e1 T.rl m1) (h2 : WE X E B Γ e2 (tTup T).rl m2) (hm : behindInMarks .NotIn e2 = false := by with_unfolding_all rfl) : WE X E B Γ (.Compare e1 [.NotIn] [e2] pos) tBool.rl (m1 >>= fun a => m2 >>= fun as => pure (!decide (a ∈ as))) := we_cmp op_notIn_seq (v_niT q) hm h1 h2
theorem wt_niT (q : EqF T) (h1 : WE X E B Γ e1 T.rl m1) (h2 : WE X E B Γ e2 (tTup T).rl m2) (hm : behindInMarks .NotIn e2 = false := by with_unfolding_all rfl) : WT X E B Γ (.Compare e1 [.NotIn] [e2] pos) (m1 >>= fun a => m2 >>= fun as => pure (!decide (a ∈ as))) := wt_cmp op_notIn_seq (v_niT q) hm h1 h2
end

/-! ### arguments in a row, displays -/
def WAc (X : Cx) (E : XK) (B : Bs) (Γ : List Slot) (es : List Expr) {β : Type} (c : PySem.W.Frag → Hp → Hp → List V → Out β → Prop) (m : Out β) : Prop :=
  ∀ σ F H ω (P : β → Prop) (Q : List V → Hp → Prop), EnvOk X.K B Γ σ F H ω → Post m P (RB X.K B E) → (∀ vs F' H' o, Stp F H F' H' → c X.K F' H' vs o → Post o P (RB X.K B E) → Q vs H') → sA X es σ H Q
theorem wa_nil {β : Type} {c : PySem.W.Frag → Hp → Hp → List V → Out β → Prop} {m : Out β} (h : ∀ K F H, Same F H → c K F H [] m) : WAc X E B Γ [] c m := fun σ F H ω P Q en p q => ⟨_, pa_nil, q [] F H m (Stp.refl en.fh) (h _ _ _ en.fh) p⟩
theorem wa_cons {β α : Type} {e : Expr} {es : List Expr} {R : Rl α} {m : Out α} {f : α → Out β} {c : PySem.W.Frag → Hp → Hp → List V → Out β → Prop} (h : WE X E B Γ e R m)
    (hr : ∀ a, WAc X E B Γ es (fun K F H vs o => ∀ v, R.rel K F H v a → c K F H (v :: vs) o) (f a)) (hs : starEach (e :: es) X.env = (false, eval e X.env) :: starEach es X.env := by rfl) : WAc X E B Γ (e :: es) c (m >>= f) := fun σ F H ω P Q en p q => by
  refine ⟨_, pa_cons pe_s pa_s hs, ?_⟩
  refine h σ F H ω _ en (p.bind.imp fun a po v F1 H1 s1 r1 => ?_)
  exact hr a σ F1 H1 ω P _ (en.stp s1) po fun vs F2 H2 o s2 hc ho => q (v :: vs) F2 H2 o (s1.trans s2) (hc v (R.mono s2 r1)) ho
/-- a written tuple, a written list, of whatever type -/
def SeqC (h : List V → HO) {α : Type} (T : Ty α) (K : PySem.W.Frag) (F _H : Hp) (vs : List V) (o : Out α) : Prop := ∃ a, o = pure a ∧ vs.length ≤ 1000 ∧ ∀ p F', Same F F' → F' p = some (h vs) → T.rel K F' (.ref p) a
theorem le_line {n : Nat} (h : n ≤ 1000) : n ≤ sizeLine := Nat.le_trans h (by decide)
theorem we_tupd {es : List Expr} {α : Type} {T : Ty α} {m : Out α} {j : Nat} {pos : Pos} (h : WAc X E B Γ es (SeqC .tup T) m) : WE X E B Γ (.Tuple es j pos) T.rl m := fun σ F H ω Q en p =>
  ⟨_, pe_tup pa_s, h σ F H ω _ _ en p fun vs F' H' o s ⟨a, e, hl, hT⟩ po => ⟨le_line hl, fun d hd => by
    subst e
    exact po (.ref d) _ _ (s.trans (Stp.new s.fh hd)) (hT d _ (Stp.new (o := .tup vs) s.fh hd).ff upd_same)⟩⟩
theorem we_lstd {es : List Expr} {α : Type} {T : Ty α} {m : Out α} {pos : Pos} (h : WAc X E B Γ es (SeqC .lst T) m) : WE X E B Γ (.List es pos) T.rl m := fun σ F H ω Q en p =>
  ⟨_, pe_lst pa_s, h σ F H ω _ _ en p fun vs F' H' o s ⟨a, e, hl, hT⟩ po => ⟨le_line hl, fun d hd => by
    subst e
    exact po (.ref d) _ _ (s.trans (Stp.new s.fh hd)) (hT d _ (Stp.new (o := .lst vs) s.fh hd).ff upd_same)⟩⟩
section
variable {e1 e2 e3 : Expr} {α β γ : Type} {T : Ty α} {U : Ty β} {W : Ty γ} {m1 : Out α} {m2 : Out β} {m3 : Out γ} {j : Nat} {pos : Pos}
theorem we_t1 (h1 : WE X E B Γ e1 T.rl m1) (s1 : starEach (e1 :: []) X.env = (false, eval e1 X.env) :: starEach [] X.env := by rfl) : WE X E B Γ (.Tuple [e1] j pos) (tT1 T).rl (m1 >>= fun a => pure a) :=
  we_tupd (wa_cons h1 (fun a => wa_nil fun K F H s v1 r1 => ⟨a, rfl, by simp, fun p F' s e => ⟨p, v1, rfl, SqT.of e, T.mono s r1⟩⟩) s1)
theorem we_t2 (h1 : WE X E B Γ e1 T.rl m1) (h2 : WE X E B Γ e2 U.rl m2) (s1 : starEach (e1 :: e2 :: []) X.env = (false, eval e1 X.env) :: starEach (e2 :: []) X.env := by rfl) (s2 : starEach (e2 :: []) X.env = (false, eval e2 X.env) :: starEach [] X.env := by rfl) :
    WE X E B Γ (.Tuple [e1, e2] j pos) (tT2 T U).rl (m1 >>= fun a => m2 >>= fun b => pure (a, b)) :=
  we_tupd (wa_cons h1 (fun a => wa_cons h2 (fun b => wa_nil fun K F H s v2 r2 v1 r1 => ⟨(a, b), rfl, by simp, fun p F' s e => ⟨p, v1, v2, rfl, SqT.of e, T.mono s r1, U.mono s r2⟩⟩) s2) s1)
theorem we_t3 (h1 : WE X E B Γ e1 T.rl m1) (h2 : WE X E B Γ e2 U.rl m2) (h3 : WE X E B Γ e3 W.rl m3) (s1 : starEach (e1 :: e2 :: e3 :: []) X.env = (false, eval e1 X.env) :: starEach (e2 :: e3 :: []) X.env := by rfl)
    (s2 : starEach (e2 :: e3 :: []) X.env = (false, eval e2 X.env) :: starEach (e3 :: []) X.env := by rfl) (s3 : starEach (e3 :: []) X.env = (false, eval e3 X.env) :: starEach [] X.env := by rfl) :
    WE X E B Γ (.Tuple [e1, e2, e3] j pos) (tT3 T U W).rl (m1 >>= fun a => m2 >>= fun b => m3 >>= fun c => pure (a, b, c)) :=
  we_tupd (wa_cons h1 (fun a => wa_cons h2 (fun b => wa_cons h3 (fun c => wa_nil fun K F H s v3 r3 v2 r2 v1 r1 => ⟨(a, b, c), rfl, by simp, fun p F' s e => ⟨p, v1, v2, v3, rfl, SqT.of e, T.mono s r1, U.mono s r2, W.mono s r3⟩⟩) s3) s2) s1)
theorem we_l2 (h1 : WE X E B Γ e1 T.rl m1) (h2 : WE X E B Γ e2 U.rl m2) (s1 : starEach (e1 :: e2 :: []) X.env = (false, eval e1 X.env) :: starEach (e2 :: []) X.env := by rfl) (s2 : starEach (e2 :: []) X.env = (false, eval e2 X.env) :: starEach [] X.env := by rfl) :
    WE X E B Γ (.List [e1, e2] pos) (tL2 T U).rl (m1 >>= fun a => m2 >>= fun b => pure (a, b)) :=
  we_lstd (wa_cons h1 (fun a => wa_cons h2 (fun b => wa_nil fun K F H s v2 r2 v1 r1 => ⟨(a, b), rfl, by simp, fun p F' s e => ⟨p, v1, v2, rfl, e, T.mono s r1, U.mono s r2⟩⟩) s2) s1)
theorem we_l3 (h1 : WE X E B Γ e1 T.rl m1) (h2 : WE X E B Γ e2 U.rl m2) (h3 : WE X E B Γ e3 W.rl m3) (s1 : starEach (e1 :: e2 :: e3 :: []) X.env = (false, eval e1 X.env) :: starEach (e2 :: e3 :: []) X.env := by rfl)
    (s2 : starEach (e2 :: e3 :: []) X.env = (false, eval e2 X.env) :: starEach (e3 :: []) X.env := by rfl) (s3 : starEach (e3 :: []) X.env = (false, eval e3 X.env) :: starEach [] X.env := by rfl) :
    WE X E B Γ (.List [e1, e2, e3] pos) (tL3 T U W).rl (m1 >>= fun a => m2 >>= fun b => m3 >>= fun c => pure (a, b, c)) :=
  we_lstd (wa_cons h1 (fun a => wa_cons h2 (fun b => wa_cons h3 (fun c => wa_nil fun K F H s v3 r3 v2 r2 v1 r1 => ⟨(a, b, c), rfl, by simp, fun p F' s e => ⟨p, v1, v2, v3, rfl, e, T.mono s r1, U.mono s r2, W.mono s r3⟩⟩) s3) s2) s1)
end
/-- items that are alike -/
def WAL (X : Cx) (E : XK) (B : Bs) (Γ : List Slot) (es : List Expr) {α : Type} (T : Ty α) (m : Out (List α)) : Prop :=
  ∀ σ F H ω (Q : List V → Hp → Prop), EnvOk X.K B Γ σ F H ω → Post m (fun as => ∀ vs F' H', Stp F H F' H' → vs.length = es.length → Fa2 (T.rel X.K F') vs as → Q vs H') (RB X.K B E) → sA X es σ H Q
theorem wal_nil {α : Type} {T : Ty α} : WAL X E B Γ [] T (pure []) := fun σ F H ω Q en p => ⟨_, pa_nil, p [] F H (Stp.refl en.fh) rfl .nil⟩
theorem wal_cons {α : Type} {T : Ty α} {e : Expr} {es : List Expr} {m : Out α} {n : Out (List α)} (h : WE X E B Γ e T.rl m) (hr : WAL X E B Γ es T n) (hs : starEach (e :: es) X.env = (false, eval e X.env) :: starEach es X.env := by rfl) :
    WAL X E B Γ (e :: es) T (m >>= fun a => n >>= fun as => pure (a :: as)) := fun σ F H ω Q en p => by
  refine ⟨_, pa_cons pe_s pa_s hs, ?_⟩
  refine h σ F H ω _ en (p.bind.imp fun a po v F1 H1 s1 r1 => ?_)
  exact hr σ F1 H1 ω _ (en.stp s1) (po.bind.imp fun as q vs F2 H2 s2 l r2 => q (v :: vs) F2 H2 (s1.trans s2) (by rw [List.length_cons, List.length_cons, l]) (.cons (T.mono s2.ff r1) r2))
theorem wo_lst {α : Type} {T : Ty α} {es : List Expr} {m : Out (List α)} {pos : Pos} (h : WAL X E B Γ es T m) (hn : es.length ≤ 1000 := by decide) : WO X E B Γ (.List es pos) (oLst T) m := fun σ F H ω Q en p =>
  ⟨_, pe_lst pa_s, h σ F H ω _ en (p.imp fun as q vs F' H' s l r => ⟨le_line (by rw [l]; exact hn), fun d hd => new_lst s.fh hd r fun v F4 H4 S s4 dd r => q v F4 H4 S (s.trans s4) (new_of s dd) r⟩)⟩
theorem we_tupl {α : Type} {T : Ty α} {es : List Expr} {m : Out (List α)} {j : Nat} {pos : Pos} (h : WAL X E B Γ es T m) (hn : es.length ≤ 1000 := by decide) : WE X E B Γ (.Tuple es j pos) (tTup T).rl m := fun σ F H ω Q en p =>
  ⟨_, pe_tup pa_s, h σ F H ω _ en (p.imp fun as q vs F' H' s l r => ⟨le_line (by rw [l]; exact hn), fun d hd => new_tup s.fh hd r fun v F4 H4 s4 r => q v F4 H4 (s.trans s4) r⟩)⟩
end SL

set_option Elab.async false
set_option linter.all false
set_option maxRecDepth 100000
set_option maxHeartbeats 2000000
/-! SLd: defs and their calls; what is walked; comprehensions. -/
namespace SL
open PySem PySem.Spec PyProof.Rows L2
variable {X : Cx} {N : List Str} {sc : Scp} {k : Nat} {E : XK} {B : Bs} {Γ : List Slot}

/-! ### parameters -/
structure Par (ι : Type) where
  n : Nat
  rel : PySem.W.Frag → Hp → List V → ι → Prop
  slots : ι → List Slot
  len : ∀ {K F vs i}, rel K F vs i → vs.length = n
  slen : ∀ i, (slots i).length = n
  ok : ∀ {K F vs i}, rel K F vs i → ∀ (H : Hp) (S : Addr → Prop) (j : Nat) (s : Slot), (slots i)[j]? = some s → s.ok K F H S vs[j]?
def pN : Par Unit := ⟨0, fun _ _ vs _ => vs = [], fun _ => [], fun h => by rw [h]; rfl, fun _ => rfl, fun _ _ _ j s h => by simp at h⟩
def pC {α ι : Type} (T : Ty α) (P : Par ι) : Par (α × ι) where
  n := P.n + 1
  rel := fun K F vs i => ∃ v ws, vs = v :: ws ∧ T.rel K F v i.1 ∧ P.rel K F ws i.2
  slots := fun i => iS T i.1 :: P.slots i.2
  len := fun ⟨v, ws, e, _, r⟩ => by rw [e, List.length_cons, P.len r]
  slen := fun i => by rw [List.length_cons, P.slen]
  ok := fun ⟨v, ws, e, r1, r2⟩ H S j s h => by
    subst e
    cases j with
    | zero =>
      simp only [List.getElem?_cons_zero, Option.some.injEq] at h
      subst h
      exact ⟨v, rfl, r1⟩
    | succ j =>
      simp only [List.getElem?_cons_succ] at h ⊢
      exact P.ok r2 H S j s h

/-! ### promises -/
def Sps {ι β : Type} (P : Par ι) (m : ι → Out β) (T : Ty β) (K : PySem.W.Frag) : Sp := fun vs H Q E => ∃ (i : ι) (F : Hp), Same F H ∧ P.rel K F vs i ∧
  Post (m i) (fun b => ∀ v F' H', Stp F H F' H' → T.rel K F' v b → Q v H') (fun x => ∀ cls d F' H', Stp F H F' H' → ErrOk K F' x cls d → E cls d H')
/-- .. that hand back a new thing -/
def SpsO {ι β : Type} (P : Par ι) (m : ι → Out β) (O : Own β) (K : PySem.W.Frag) : Sp := fun vs H Q E => ∃ (i : ι) (F : Hp), Same F H ∧ P.rel K F vs i ∧
  Post (m i) (fun b => ∀ v F' H' S, Stp F H F' H' → (∀ p, S p → F' p = none ∧ H' p ≠ none ∧ H p = none) → O.rel K F' H' S v b → Q v H') (fun x => ∀ cls d F' H', Stp F H F' H' → ErrOk K F' x cls d → E cls d H')
/-- a def of the module: by its name, its level, what it promises -/
def Def (Pr : Program) (w : World) (K : PySem.W.Frag) (mg : Str → Option Value) (base : Heap) (k : Nat) (name : Str) (ps : List Str) (dvs : List V) (sp : Sp) : Prop :=
  ∃ (f : Addr) (fd : FuncData) (ds : List Value), FnOk Pr w K mg base (L2.CX Pr w) k f fd ps sp ∧ mg name = some (.ref f) ∧ PySem.W.keepIn K (.ref f) = true ∧ Binds K fd ps ds ∧ Vals dvs ds
abbrev DefX (X : Cx) (k : Nat) (name : Str) (ps : List Str) (dvs : List V) (sp : Sp) : Prop := Def X.prog X.w X.K X.mg X.base k name ps dvs sp
def CallC {ι β : Type} (P : Par ι) (m : ι → Out β) (dvs : List V) (K : PySem.W.Frag) (F _H : Hp) (vs : List V) (o : Out β) : Prop := ∃ i, o = m i ∧ P.rel K F (vs ++ dvs) i
section
variable {ι β : Type} {P : Par ι} {mf : ι → Out β} {T : Ty β} {O : Own β} {j : Nat} {name : Str} {ps : List Str} {dvs : List V} {e : Expr} {es : List Expr} {m : Out β} {p pos : Pos}
theorem err_up {K : PySem.W.Frag} {Γ : List Slot} {σ : L2.St} {F H F' H' : Hp} {ω : Ow} (en : EnvOk K B Γ σ F H ω) (s : Stp F H F' H') {x : Err} (h : RB K B E x) : ∀ cls d F2 H2, Stp F' H' F2 H2 → ErrOk K F2 x cls d → E cls d H2 :=
  fun cls d F2 H2 s2 e => h cls d F2 H2 (en.base.stp (s.trans s2)) e
theorem sps_of {K : PySem.W.Frag} {Γ : List Slot} {σ : L2.St} {F H F' H' : Hp} {ω : Ow} (en : EnvOk K B Γ σ F H ω) (s : Stp F H F' H') {vs : List V} {o : Out β} {Q : VK} (hc : CallC P mf dvs K F' H' vs o)
    (po : Post o (fun b => ∀ v F' H', Stp F H F' H' → T.rl.rel K F' H' v b → Q v H') (RB K B E)) : Sps P mf T K (vs ++ dvs) H' Q E := by
  obtain ⟨i, rfl, r⟩ := hc
  exact ⟨i, F', s.fh, r, po.mono (fun b q v F2 H2 s2 r2 => q v F2 H2 (s.trans s2) r2) fun x h => err_up en s h⟩
theorem spsO_of {K : PySem.W.Frag} {Γ : List Slot} {σ : L2.St} {F H F' H' : Hp} {ω : Ow} (en : EnvOk K B Γ σ F H ω) (s : Stp F H F' H') {vs : List V} {o : Out β} {Q : VK} (hc : CallC P mf dvs K F' H' vs o)
    (po : Post o (fun b => ∀ v F' H' S, Stp F H F' H' → (∀ p, S p → F' p = none ∧ H' p ≠ none ∧ H p = none) → O.rel K F' H' S v b → Q v H') (RB K B E)) : SpsO P mf O K (vs ++ dvs) H' Q E := by
  obtain ⟨i, rfl, r⟩ := hc
  exact ⟨i, F', s.fh, r, po.mono (fun b q v F2 H2 S s2 d r2 => q v F2 H2 S (s.trans s2) (new_of s d) r2) fun x h => err_up en s h⟩
theorem we_call (C : XC X N sc k E) (G : DefX X j name ps dvs (Sps P mf T X.K)) (hk : j ≤ k) (ha : WAc X E B Γ (e :: es) (CallC P mf dvs) m) (hg : GlN sc name := by rfl) (hdb : (name == ("__debug__" : Str)) = false := by decide)
    (he : starEach (e :: es) X.env = (false, eval e X.env) :: starEach es X.env := by rfl) (hpl : (backTo pos (starEach es X.env)).any (·.1) = false := by rfl) : WE X E B Γ (.Call (.Name name p) (e :: es) [] pos) T.rl m := fun σ F H ω Q en q => by
  obtain ⟨f, fd, ds, G, gm, kp, hb, hd⟩ := G
  exact ⟨_, pe_call G (C.room.mono hk) (gl_ C hg) gm kp hb hd C.pass pa_s hdb he hpl, ha σ F H ω _ _ en q fun vs F' H' o s hc po => sps_of en s hc po⟩
theorem wo_call (C : XC X N sc k E) (G : DefX X j name ps dvs (SpsO P mf O X.K)) (hk : j ≤ k) (ha : WAc X E B Γ (e :: es) (CallC P mf dvs) m) (hg : GlN sc name := by rfl) (hdb : (name == ("__debug__" : Str)) = false := by decide)
    (he : starEach (e :: es) X.env = (false, eval e X.env) :: starEach es X.env := by rfl) (hpl : (backTo pos (starEach es X.env)).any (·.1) = false := by rfl) : WO X E B Γ (.Call (.Name name p) (e :: es) [] pos) O m := fun σ F H ω Q en q => by
  obtain ⟨f, fd, ds, G, gm, kp, hb, hd⟩ := G
  exact ⟨_, pe_call G (C.room.mono hk) (gl_ C hg) gm kp hb hd C.pass pa_s hdb he hpl, ha σ F H ω _ _ en q fun vs F' H' o s hc po => spsO_of en s hc po⟩
theorem we_call0 (C : XC X N sc k E) (G : DefX X j name ps dvs (Sps P mf T X.K)) (hk : j ≤ k) (ha : ∀ K F H, Same F H → CallC P mf dvs K F H [] m) (hg : GlN sc name := by rfl) (hdb : (name == ("__debug__" : Str)) = false := by decide) :
    WE X E B Γ (.Call (.Name name p) [] [] pos) T.rl m := fun σ F H ω Q en q => by
  obtain ⟨f, fd, ds, G, gm, kp, hb, hd⟩ := G
  exact ⟨_, pe_call0 G (C.room.mono hk) (gl_ C hg) gm kp hb hd C.pass hdb, sps_of en (Stp.refl en.fh) (ha _ _ _ en.fh) q⟩
end

/-! ### a def by its body -/
theorem start_get {N : List Str} {vs : List V} (j : Nat) (h : j < vs.length) : (L2.start N vs)[j]?.join = vs[j]? := by
  unfold L2.start
  rw [List.getElem?_append_left (by simpa using h), List.getElem?_map]
  cases e : vs[j]? <;> rfl
theorem xc_def {Pr : Program} {w : World} {K : PySem.W.Frag} {mg : Str → Option Value} {base : Heap} {N : List Str} {qual : Str} {scope : Scope} {f : Addr} {cd : Value} {A : Around} {outer : List Env} {s : Shared} {H : Hp} {E : XK} {k : Nat} (nd : N.Nodup)
    (hr : Room k (A.deeper (envOfC qual scope s.heap.objs.size f cd))) : XC (cxOf (L2.CX Pr w) Pr w K mg base N qual scope f cd A outer s H E) N ⟨scope, scope⟩ k E :=
  ⟨rfl, nd, rfl, rfl, hr, passes_call (takes_of rfl rfl rfl rfl) fun _ _ _ _ h => h, passes_of rfl, fun _ h => ⟨h, .inl rfl⟩⟩
def anyS : Nat → List Slot
  | 0 => []
  | n + 1 => .any :: anyS n
theorem anyS_get : ∀ (n j : Nat) (s : Slot), (anyS n)[j]? = some s → s = .any
  | 0, j, s, h => by simp [anyS] at h
  | n + 1, 0, s, h => by simp [anyS] at h; exact h.symm
  | n + 1, j + 1, s, h => anyS_get n j s (by simpa [anyS] using h)
theorem anyS_len : ∀ n : Nat, (anyS n).length = n
  | 0 => rfl
  | n + 1 => by rw [anyS, List.length_cons, anyS_len n]
theorem env_start {K : PySem.W.Frag} {ι : Type} {P : Par ι} {i : ι} {N : List Str} {vs : List V} {F H : Hp} (hF : Same F H) (hr : P.rel K F vs i) (hN : P.n ≤ N.length) : EnvOk K ⟨F, H, fun _ => False⟩ (P.slots i ++ anyS (N.length - P.n)) (L2.start N vs) F H (fun _ => none) := by
  have hl := P.len hr
  refine ⟨SW.refl hF, ?_, (fun a i h => nomatch h), fun j s h => ?_⟩
  · unfold L2.start
    rw [List.length_append, List.length_append, List.length_map, List.length_replicate, P.slen, anyS_len, hl]
  · by_cases c : j < P.n
    · rw [List.getElem?_append_left (by rw [P.slen]; exact c)] at h
      have q := P.ok hr H (fun a => (none : Option Nat) = some j) j s h
      rw [start_get j (by rw [hl]; exact c)]
      exact q
    · rw [List.getElem?_append_right (by rw [P.slen]; omega)] at h
      rw [anyS_get _ _ _ h]
      trivial
section
variable {Pr : Program} {w : World} {K : PySem.W.Frag} {mg : Str → Option Value} {base : Heap} {x qual : Str} {params : Arguments} {body : List Stmt} {scope : Scope} {dvs : List V} {kws : List (Str × V)} {f : Addr} {fd : FuncData}
variable {ι β : Type} {P : Par ι} {m : ι → Out β} {T : Ty β} {O : Own β} {N ps : List Str} {k : Nat}
theorem rb_of {F H : Hp} {E : XK} {x : Err} (h : ∀ cls d F' H', Stp F H F' H' → ErrOk K F' x cls d → E cls d H') : RB K ⟨F, H, fun _ => False⟩ E x := fun cls d F' H' s e => h cls d F' H' (SW.pure s) e
theorem fn_body (F : FunD K x qual params body scope dvs kws f fd) (S : FnScope N ps scope) (hn : P.n = ps.length) (hN : P.n ≤ N.length)
    (h : ∀ (X : Cx) (E : XK) (B : Bs) (i : ι), X.prog = Pr → X.w = w → X.K = K → X.mg = mg → X.base = base → (∀ p, ¬ B.W p) → XC X N ⟨scope, scope⟩ k E → WS X E B (P.slots i ++ anyS (N.length - P.n)) [body] (m i) (fun b => .rt β T b)) :
    FnOk Pr w K mg base (L2.CX Pr w) (k + 1) f fd ps (Sps P m T K) := by
  refine F.ok S (fun vs H Q E ⟨i, F0, _, r, _⟩ => (P.len r).trans hn) fun cdv A outer s H vs Q E hr ⟨i, F0, hF, r, po⟩ => ?_
  have q := h (cxOf (L2.CX Pr w) Pr w K mg base N qual scope f cdv A outer s H E) E ⟨F0, H, fun _ => False⟩ i rfl rfl rfl rfl rfl (fun _ z => z) (xc_def S.nd hr) (L2.start N vs) F0 H (fun _ => none) { nx := fun _ H' => Q .non H', rt := Q } (env_start hF r hN)
    (po.mono (fun b q v F' H' s r => q v F' H' (SW.pure s) r) fun x q => rb_of q)
  obtain ⟨t, pt, ht⟩ := q
  exact ⟨t, pt, ht⟩
theorem fn_bodyO (F : FunD K x qual params body scope dvs kws f fd) (S : FnScope N ps scope) (hn : P.n = ps.length) (hN : P.n ≤ N.length)
    (h : ∀ (X : Cx) (E : XK) (B : Bs) (i : ι), X.prog = Pr → X.w = w → X.K = K → X.mg = mg → X.base = base → (∀ p, ¬ B.W p) → XC X N ⟨scope, scope⟩ k E → WS X E B (P.slots i ++ anyS (N.length - P.n)) [body] (m i) (fun b => .ro β O b)) :
    FnOk Pr w K mg base (L2.CX Pr w) (k + 1) f fd ps (SpsO P m O K) := by
  refine F.ok S (fun vs H Q E ⟨i, F0, _, r, _⟩ => (P.len r).trans hn) fun cdv A outer s H vs Q E hr ⟨i, F0, hF, r, po⟩ => ?_
  have q := h (cxOf (L2.CX Pr w) Pr w K mg base N qual scope f cdv A outer s H E) E ⟨F0, H, fun _ => False⟩ i rfl rfl rfl rfl rfl (fun _ z => z) (xc_def S.nd hr) (L2.start N vs) F0 H (fun _ => none) { nx := fun _ H' => Q .non H', rt := Q } (env_start hF r hN)
    (po.mono (fun b q v F' H' S s d r => q v F' H' S (SW.pure s) d r) fun x q => rb_of q)
  obtain ⟨t, pt, ht⟩ := q
  exact ⟨t, pt, ht⟩
end

/-! ### what is walked -/
/-- the walk J gives the things of xs, one a turn -/
structure TW (K : PySem.W.Frag) (J : It) (F0 : Hp) {α : Type} (T : Ty α) (xs : List α) : Prop where
  goes : ∀ i F H, i < xs.length → Same F0 F → Same F H → J.go i H
  stops : ∀ F H, Same F0 F → Same F H → J.stop xs.length H
  yields : ∀ i F H x H', i < xs.length → Same F0 F → Same F H → J.yld i H x H' → ∃ F' a, Stp F H F' H' ∧ xs[i]? = some a ∧ T.rel K F' x a
def WI (X : Cx) (E : XK) (B : Bs) (Γ : List Slot) (tg iter : Expr) {α : Type} (T : Ty α) (m : Out (List α)) : Prop :=
  ∀ σ F H ω (R : It → Hp → Prop), EnvOk X.K B Γ σ F H ω → Post m (fun xs => ∀ J F' H', Stp F H F' H' → TW X.K J F' T xs → xs.length ≤ sizeLine → R J H') (RB X.K B E) → sI X tg iter σ H R
section
variable {tg e e2 : Expr} {α β : Type} {T : Ty α} {U : Ty β} {m : Out (List α)} {m2 : Out (List β)} {mi mj : Out Int} {p pos : Pos}
theorem wi_lst (h : WE X E B Γ e (tLst T).rl m) : WI X E B Γ tg e T m := fun σ F H ω R en q => by
  refine ⟨_, pi_list (pe_lenQ pe_s), ?_⟩
  refine h σ F H ω _ en (q.imp fun xs q v F1 H1 s1 ⟨p, vs, e, sq, r⟩ hl => ⟨p, e, ⟨vs, SqL.of (s1.fh _ _ sq)⟩, q _ F1 H1 s1 ?_ ?_⟩)
  · exact ⟨fun i F H hi sf sh => ⟨vs, vs[i]'(by rw [r.len]; exact hi), SqL.of (sh _ _ (sf _ _ sq)), by simp⟩, fun F H sf sh => ⟨vs, SqL.of (sh _ _ (sf _ _ sq)), by rw [r.len]; exact Nat.le_refl _⟩, fun i F H x H' hi sf sh y => by
      obtain ⟨rfl, y⟩ := y
      obtain ⟨a, ha, ra⟩ := r.getV (y vs (SqL.of (sh _ _ (sf _ _ sq))))
      exact ⟨F, a, Stp.refl sh, ha, T.mono sf ra⟩⟩
  · rw [← r.len]
    exact hl p vs (.inl (.inl (s1.fh _ _ sq)))
theorem wi_lstQ (h : WE X E B Γ e (tLstQ T).rl m) : WI X E B Γ tg e T m := fun σ F H ω R en q => by
  refine ⟨_, pi_list (pe_lenQ pe_s), ?_⟩
  refine h σ F H ω _ en (q.imp fun xs q v F1 H1 s1 ⟨p, vs, e, sq, r⟩ hl => ⟨p, e, ⟨vs, s1.fh.seq sq⟩, q _ F1 H1 s1 ?_ ?_⟩)
  · exact ⟨fun i F H hi sf sh => ⟨vs, vs[i]'(by rw [r.len]; exact hi), sh.seq (sf.seq sq), by simp⟩, fun F H sf sh => ⟨vs, sh.seq (sf.seq sq), by rw [r.len]; exact Nat.le_refl _⟩, fun i F H x H' hi sf sh y => by
      obtain ⟨rfl, y⟩ := y
      obtain ⟨a, ha, ra⟩ := r.getV (y vs (sh.seq (sf.seq sq)))
      exact ⟨F, a, Stp.refl sh, ha, T.mono sf ra⟩⟩
  · rw [← r.len]
    exact sqL_len (s1.fh.seq sq) hl
theorem wi_tup (h : WE X E B Γ e (tTup T).rl m) : WI X E B Γ tg e T m := fun σ F H ω R en q => by
  refine ⟨_, pi_tup (pe_lenQ pe_s), ?_⟩
  refine h σ F H ω _ en (q.imp fun xs q v F1 H1 s1 ⟨p, vs, e, sq, r⟩ hl => ⟨p, e, ⟨vs, seqT s1.fh sq⟩, q _ F1 H1 s1 ?_ ?_⟩)
  · exact ⟨fun i F H hi sf sh => ⟨vs, vs[i]'(by rw [r.len]; exact hi), seqT sh (seqT sf sq), by simp⟩, fun F H sf sh => ⟨vs, seqT sh (seqT sf sq), by rw [r.len]; exact Nat.le_refl _⟩, fun i F H x H' hi sf sh y => by
      obtain ⟨rfl, y⟩ := y
      obtain ⟨a, ha, ra⟩ := r.getV (y vs (seqT sh (seqT sf sq)))
      exact ⟨F, a, Stp.refl sh, ha, T.mono sf ra⟩⟩
  · rw [← r.len]
    exact sqT_len (seqT s1.fh sq) hl
/-- 0, 1, .. -/
def upto (n : Nat) : List Int := (List.range n).map fun (i : Nat) => (i : Int)
def fromto (a b : Int) : List Int := (List.range (b - a).toNat).map fun (i : Nat) => a + (i : Int)
theorem tw_range {K : PySem.W.Frag} {F0 : Hp} (lo : Int) (n : Nat) : TW K (Itr lo n) F0 tInt ((List.range n).map fun (i : Nat) => lo + (i : Int)) := by
  refine ⟨fun i F H hi _ _ => (show i < n by simpa using hi), fun F H _ _ => by show n ≤ _; simp, fun i F H x H' hi sf sh y => ?_⟩
  obtain ⟨rfl, rfl⟩ := y
  have hi' : i < n := by simpa using hi
  exact ⟨F, lo + i, Stp.refl sh, by simp [hi'], rfl⟩
def rangeO (n : Int) : Out (List Int) := if -16777216 ≤ n ∧ n ≤ 16777216 then pure (upto n.toNat) else .stuck
def range2O (a b : Int) : Out (List Int) := if -16777216 ≤ a ∧ a ≤ 16777216 ∧ -16777216 ≤ b ∧ b ≤ 16777216 ∧ b - a ≤ 16777216 then pure (fromto a b) else .stuck
theorem upto_len (n : Nat) : (upto n).length = n := by simp [upto]
theorem fromto_len (a b : Int) : (fromto a b).length = (b - a).toNat := by simp [fromto]
theorem upto_eq (n : Nat) : upto n = (List.range n).map fun (i : Nat) => (0 : Int) + (i : Int) := by simp [upto]
theorem wi_range (C : XC X N sc k E) (Z : Fre X.mg) (h : WE X E B Γ e tInt.rl mi) (hg : GlN sc "range" := by rfl) (hs : starEach (e :: []) X.env = (false, eval e X.env) :: starEach [] X.env := by rfl) (hs2 : starEach [e] X.env = [(false, eval e X.env)] := by rfl) :
    WI X E B Γ tg (.Call (.Name "range" p) [e] [] pos) tInt (mi >>= rangeO) := fun σ F H ω R en q => by
  refine ⟨_, pi_range1 (gl_ C hg) Z.range (pa1 hs) hs2, ?_⟩
  refine h σ F H ω _ en (q.bind.imp fun n q v F1 H1 s1 r => ?_)
  unfold rangeO at q
  by_cases c : -16777216 ≤ n ∧ n ≤ 16777216
  · rw [if_pos c] at q
    exact ⟨n, by rw [show v = .int n from r], by omega, by omega, q _ F1 H1 s1 (by rw [upto_eq]; exact tw_range 0 n.toNat) (by rw [upto_len, sizeLine_eq]; omega)⟩
  · rw [if_neg c] at q
    exact q.elim
theorem wi_range2 (C : XC X N sc k E) (Z : Fre X.mg) (h : WE X E B Γ e tInt.rl mi) (h2 : WE X E B Γ e2 tInt.rl mj) (hg : GlN sc "range" := by rfl) (hs : starEach (e :: e2 :: []) X.env = (false, eval e X.env) :: starEach (e2 :: []) X.env := by rfl)
    (hs2 : starEach (e2 :: []) X.env = (false, eval e2 X.env) :: starEach [] X.env := by rfl) (hs3 : starEach [e, e2] X.env = [(false, eval e X.env), (false, eval e2 X.env)] := by rfl) (hs4 : starEach [e2] X.env = [(false, eval e2 X.env)] := by rfl) :
    WI X E B Γ tg (.Call (.Name "range" p) [e, e2] [] pos) tInt (mi >>= fun a => mj >>= fun b => range2O a b) := fun σ F H ω R en q => by
  refine ⟨_, pi_range2 (gl_ C hg) Z.range (pa2 hs hs2) hs3 hs4, ?_⟩
  refine h σ F H ω _ en (q.bind.imp fun a q v F1 H1 s1 r => ?_)
  refine h2 σ F1 H1 ω _ (en.stp s1) (q.bind.imp fun b q v2 F2 H2 s2 r2 => ?_)
  unfold range2O at q
  by_cases c : -16777216 ≤ a ∧ a ≤ 16777216 ∧ -16777216 ≤ b ∧ b ≤ 16777216 ∧ b - a ≤ 16777216
  · rw [if_pos c] at q
    exact ⟨a, b, by rw [show v = .int a from r, show v2 = .int b from r2], ⟨by omega, by omega, by omega, by omega⟩, q _ F2 H2 (s1.trans s2) (tw_range a _) (by rw [fromto_len, sizeLine_eq]; omega)⟩
  · rw [if_neg c] at q
    exact q.elim
/-- range(len(e)) of a list, of a tuple: no bound is asked -/
theorem wi_rlen (C : XC X N sc k E) (Z : Fre X.mg) {p2 pos2 : Pos} {R : Rl (List α)} (hR : ∀ K F H v (a : List α), Same F H → R.rel K F H v a → ∃ q vs, v = .ref q ∧ (SqL K H q vs ∨ SqT K H q vs) ∧ vs.length = a.length) (h : WE X E B Γ e R m) (hg : GlN sc "range" := by rfl) (hg2 : GlN sc "len" := by rfl)
    (he : starEach (e :: []) X.env = (false, eval e X.env) :: starEach [] X.env := by rfl) (hs : starEach (.Call (.Name "len" p2) [e] [] pos2 :: []) X.env = (false, eval (.Call (.Name "len" p2) [e] [] pos2) X.env) :: starEach [] X.env := by rfl)
    (hs2 : starEach [.Call (.Name "len" p2) [e] [] pos2] X.env = [(false, eval (.Call (.Name "len" p2) [e] [] pos2) X.env)] := by rfl) :
    WI X E B Γ tg (.Call (.Name "range" p) [.Call (.Name "len" p2) [e] [] pos2] [] pos) tInt (m >>= fun a => pure (upto a.length)) := fun σ F H ω W en q => by
  refine ⟨_, pi_range1 (gl_ C hg) Z.range (pa_cons (pe_callB call_len_seq (gl_ C hg2) Z.len boot_len (pa_cons (pe_lenQ pe_s) pa_nil he) (he := he)) pa_nil hs) hs2, ?_⟩
  refine h σ F H ω _ en (q.bind.imp fun a q v F1 H1 s1 r hl => ?_)
  obtain ⟨d, vs, e1, sq, l⟩ := hR _ F1 H1 v a s1.fh r
  have hz : a.length ≤ sizeLine := by
    rw [← l]
    rcases sq with sq | sq
    · exact sqL_len sq hl
    · exact sqT_len sq hl
  have hz2 : a.length ≤ 16777216 := by rw [← sizeLine_eq]; exact hz
  refine ⟨d, vs, by rw [e1], sq, ((a.length : Nat) : Int), by rw [l], by omega, by omega, q _ F1 H1 s1 ?_ (by rw [upto_len]; exact hz)⟩
  rw [upto_eq]
  exact tw_range 0 _
theorem rl_len {α : Type} {T : Ty α} : ∀ K F H v (a : List α), Same F H → (rLst T).rel K F H v a → ∃ q vs, v = .ref q ∧ (SqL K H q vs ∨ SqT K H q vs) ∧ vs.length = a.length := fun K F H v a s ⟨p, vs, e, q, r⟩ => ⟨p, vs, e, .inl q, r.len⟩
theorem tt_len {α : Type} {T : Ty α} : ∀ K F H v (a : List α), Same F H → (tTup T).rl.rel K F H v a → ∃ q vs, v = .ref q ∧ (SqL K H q vs ∨ SqT K H q vs) ∧ vs.length = a.length := fun K F H v a s ⟨p, vs, e, q, r⟩ => ⟨p, vs, e, .inr (seqT s q), r.len⟩
end

/-! ### targets -/
/-- what a target makes of the slots, for a thing a -/
def WG (X : Cx) (B : Bs) (tg : Expr) {α : Type} (T : Ty α) (ix : List Nat) (f : α → List Slot → List Slot) : Prop :=
  ∀ σ F H ω Γ v a (Q : L2.St → Hp → Prop), EnvOk X.K B Γ σ F H ω → T.rel X.K F v a → (∀ σ' ω', (∀ j, j ∉ ix → σ'[j]? = σ[j]?) → σ'.length = σ.length → (∀ p, ω p = none → ω' p = none) → EnvOk X.K B (f a Γ) σ' F H ω' → Q σ' H) → sG X tg v σ H Q
theorem slot_iff {K : PySem.W.Frag} {F H : Hp} {S S' : Addr → Prop} {o : Option V} {s : Slot} (h : s.ok K F H S o) (k : ∀ a, S' a ↔ S a) : s.ok K F H S' o := by
  have e : S' = S := funext fun a => propext (k a)
  rw [e]
  exact h
theorem env_set {K : PySem.W.Frag} {Γ : List Slot} {σ : L2.St} {F H : Hp} {ω : Ow} {i : Nat} {v : V} {s : Slot} (e : EnvOk K B Γ σ F H ω) (hs : ∀ S, s.ok K F H S (some v)) : EnvOk K B (Γ.set i s) (σ.set i (some v)) F H (fun a => if ω a = some i then none else ω a) := by
  refine ⟨e.base, by rw [List.length_set, List.length_set, e.len], fun a j h => ?_, fun j t h => ?_⟩
  · by_cases c : ω a = some i
    · rw [if_pos c] at h; cases h
    · rw [if_neg c] at h
      exact e.own a j h
  · by_cases c : i = j
    · subst c
      by_cases hi : i < Γ.length
      · rw [List.getElem?_set_self hi] at h
        cases h
        rw [List.getElem?_set_self (by rw [e.len]; exact hi)]
        exact hs _
      · rw [List.getElem?_eq_none (by rw [List.length_set]; omega)] at h
        cases h
    · rw [List.getElem?_set_ne c] at h
      rw [List.getElem?_set_ne c]
      refine slot_iff (e.slot j t h) fun a => ?_
      constructor
      · intro q
        by_cases c2 : ω a = some i
        · rw [if_pos c2] at q; cases q
        · rw [if_neg c2] at q; exact q
      · intro q
        rw [if_neg (by rw [q]; exact fun z => c (Option.some.inj z).symm)]
        exact q
theorem wg_name (C : XC X N sc k E) (i : Nat) {x : Str} {pos : Pos} {α : Type} {T : Ty α} (hN : N[i]? = some x := by rfl) (hl : L2.Loc sc.raw x := by first | exact Or.inl rfl | exact Or.inr rfl) : WG X B (.Name x pos) T [i] (fun a Γ => Γ.set i (iS T a)) :=
  fun σ F H ω Γ v a Q en r q => ⟨_, pg_name (by rw [C.nm]; exact C.nd) (by rw [C.nm]; exact hN) (C.loc _ hl).1 (C.loc _ hl).2, q _ _ (fun j hj => by rw [List.getElem?_set_ne (fun z => hj (by simp [z]))]) (by rw [List.length_set]) (fun p hp => by simp [hp]) (env_set en fun _ => ⟨v, rfl, r⟩)⟩
/-- a place that is never read -/
theorem wg_t2 (C : XC X N sc k E) {t1 t2 : Expr} {α β : Type} {T : Ty α} {U : Ty β} {f : α → List Slot → List Slot} {g : β → List Slot → List Slot} {j : Nat} {pos : Pos} {ix1 ix2 : List Nat} (h1 : WG X B t1 T ix1 f) (h2 : WG X B t2 U ix2 g)
    (hn : (assignEach [t1, t2] X.env).length = 2 := by rfl) (hst : (assignEach [t1, t2] X.env).findIdx? (·.1) = none := by rfl) (ha : (assignEach (t1 :: [t2]) X.env).map (·.2) = assign t1 X.env :: (assignEach [t2] X.env).map (·.2) := by rfl)
    (hb : (assignEach (t2 :: []) X.env).map (·.2) = assign t2 X.env :: (assignEach [] X.env).map (·.2) := by rfl) : WG X B (.Tuple [t1, t2] j pos) (tT2 T U) (ix1 ++ ix2) (fun a Γ => g a.2 (f a.1 Γ)) := fun σ F H ω Γ v a Q en r q => by
  obtain ⟨p, v1, v2, e, sq, r1, r2⟩ := r
  refine ⟨_, pg_tup C.calm (pgs_cons pg_s (pgs_cons pg_s pgs_nil hb) ha) hn hst, ?_⟩
  refine ⟨p, [v1, v2], e, seqT en.fh sq, rfl, v1, [v2], rfl, h1 σ F H ω Γ v1 a.1 _ en r1 fun σ1 ω1 k1 l1 o1 en1 => ?_⟩
  exact ⟨v2, [], rfl, h2 σ1 F H ω1 _ v2 a.2 _ en1 r2 fun σ2 ω2 k2 l2 o2 en2 => ⟨rfl, q σ2 ω2 (fun j hj => by
    simp only [List.mem_append, not_or] at hj
    rw [k2 j hj.2, k1 j hj.1]) (l2.trans l1) (fun p hp => o2 p (o1 p hp)) en2⟩⟩
theorem wg_t3 (C : XC X N sc k E) {t1 t2 t3 : Expr} {α β γ : Type} {T : Ty α} {U : Ty β} {W : Ty γ} {f : α → List Slot → List Slot} {g : β → List Slot → List Slot} {h : γ → List Slot → List Slot} {j : Nat} {pos : Pos} {ix1 ix2 ix3 : List Nat} (h1 : WG X B t1 T ix1 f) (h2 : WG X B t2 U ix2 g) (h3 : WG X B t3 W ix3 h)
    (hn : (assignEach [t1, t2, t3] X.env).length = 3 := by rfl) (hst : (assignEach [t1, t2, t3] X.env).findIdx? (·.1) = none := by rfl) (ha : (assignEach (t1 :: [t2, t3]) X.env).map (·.2) = assign t1 X.env :: (assignEach [t2, t3] X.env).map (·.2) := by rfl)
    (hb : (assignEach (t2 :: [t3]) X.env).map (·.2) = assign t2 X.env :: (assignEach [t3] X.env).map (·.2) := by rfl) (hc : (assignEach (t3 :: []) X.env).map (·.2) = assign t3 X.env :: (assignEach [] X.env).map (·.2) := by rfl) :
    WG X B (.Tuple [t1, t2, t3] j pos) (tT3 T U W) (ix1 ++ (ix2 ++ ix3)) (fun a Γ => h a.2.2 (g a.2.1 (f a.1 Γ))) := fun σ F H ω Γ v a Q en r q => by
  obtain ⟨p, v1, v2, v3, e, sq, r1, r2, r3⟩ := r
  refine ⟨_, pg_tup C.calm (pgs_cons pg_s (pgs_cons pg_s (pgs_cons pg_s pgs_nil hc) hb) ha) hn hst, ?_⟩
  refine ⟨p, [v1, v2, v3], e, seqT en.fh sq, rfl, v1, [v2, v3], rfl, h1 σ F H ω Γ v1 a.1 _ en r1 fun σ1 ω1 k1 l1 o1 en1 => ?_⟩
  exact ⟨v2, [v3], rfl, h2 σ1 F H ω1 _ v2 a.2.1 _ en1 r2 fun σ2 ω2 k2 l2 o2 en2 => ⟨v3, [], rfl, h3 σ2 F H ω2 _ v3 a.2.2 _ en2 r3 fun σ3 ω3 k3 l3 o3 en3 => ⟨rfl, q σ3 ω3 (fun j hj => by
    simp only [List.mem_append, not_or] at hj
    rw [k3 j hj.2.2, k2 j hj.2.1, k1 j hj.1]) ((l3.trans l2).trans l1) (fun p hp => o3 p (o2 p (o1 p hp))) en3⟩⟩⟩
end SL

set_option Elab.async false
set_option linter.all false
set_option maxRecDepth 100000
set_option maxHeartbeats 2000000
/-! SLe: statements, loops, comprehensions. -/
namespace SL
open PySem PySem.Spec PyProof.Rows L2
variable {X : Cx} {N : List Str} {sc : Scp} {k : Nat} {E : XK} {B : Bs} {Γ : List Slot}

/-! ### blocks -/
theorem sK_cons {s : Stmt} {b : List Stmt} {bs : List (List Stmt)} {D : Ends} {σ : L2.St} {H : Hp} (h : sS X s { D with nx := sK X (b :: bs) D } σ H) : sK X ((s :: b) :: bs) D σ H := by
  obtain ⟨t, p, h⟩ := h
  refine ⟨_, pss_cons p pss_s, ?_⟩
  exact h
theorem sK_nil {bs : List (List Stmt)} {D : Ends} {σ : L2.St} {H : Hp} (h : sK X bs D σ H) : sK X ([] :: bs) D σ H := ⟨_, pss_nil, h⟩
section
variable {β : Type} {D : β → SOut} {b : List Stmt} {bs : List (List Stmt)} {m : Out β}
/-- the next block -/
theorem ws_pop (h : WS X E B Γ bs m D) : WS X E B Γ ([] :: bs) m D := fun σ F H ω En en q => sK_nil (h σ F H ω En en q)
/-- fewer facts -/
inductive Weak : List Slot → List Slot → Prop where
  | nil : Weak [] []
  | same {s : Slot} {Γ Δ : List Slot} : Weak Γ Δ → Weak (s :: Γ) (s :: Δ)
  | any {s : Slot} {Γ Δ : List Slot} : Weak Γ Δ → Weak (s :: Γ) (.any :: Δ)
theorem Weak.len {Γ Δ : List Slot} (h : Weak Γ Δ) : Γ.length = Δ.length := by
  induction h with
  | nil => rfl
  | same _ ih => rw [List.length_cons, List.length_cons, ih]
  | any _ ih => rw [List.length_cons, List.length_cons, ih]
theorem Weak.at {Γ Δ : List Slot} (h : Weak Γ Δ) : ∀ (j : Nat) (s : Slot), Δ[j]? = some s → s = .any ∨ Γ[j]? = some s := by
  induction h with
  | nil => intro j s e; simp at e
  | same _ ih =>
    intro j s e
    cases j with
    | zero => exact .inr e
    | succ j => simpa using ih j s (by simpa using e)
  | any _ ih =>
    intro j s e
    cases j with
    | zero => simp at e; exact .inl e.symm
    | succ j => simpa using ih j s (by simpa using e)
theorem EnvOk.weak {K : PySem.W.Frag} {Γ Δ : List Slot} {σ : L2.St} {F H : Hp} {ω : Ow} (e : EnvOk K B Γ σ F H ω) (w : Weak Γ Δ) : EnvOk K B Δ σ F H ω :=
  ⟨e.base, e.len.trans w.len, e.own, fun j s h => by
    rcases w.at j s h with q | q
    · rw [q]; trivial
    · exact e.slot j s q⟩
/-- the end of the blocks -/
theorem ws_end {b : β} {Δ : List Slot} (hD : D b = .nx Δ) (w : Weak Γ Δ) : WS X E B Γ [] (pure b) D := fun σ F H ω En en q => by
  have q1 : EndOk X.K B F En (D b) := q
  rw [hD] at q1
  exact q1 σ F H ω (Same.refl F) (en.weak w)
theorem ws_weak {Δ : List Slot} (w : Weak Γ Δ) (h : WS X E B Δ bs m D) : WS X E B Γ bs m D := fun σ F H ω En en q => h σ F H ω En (en.weak w) q
theorem WS.cast {m' : Out β} (h : WS X E B Γ bs m D) (q : m = m') : WS X E B Γ bs m' D := q ▸ h
/-- a statement, then the rest; or out of here -/
def Exits : SOut → Prop
  | .nx _ => False
  | _ => True
theorem ws_cons {γ : Type} {s : Stmt} {m1 : Out γ} {D1 : γ → SOut} {f : γ → Out β} (h1 : W1 X E B Γ s m1 D1)
    (h2 : ∀ c, (∃ Δ, D1 c = .nx Δ ∧ WS X E B Δ (b :: bs) (f c) D) ∨ (Exits (D1 c) ∧ ∃ r, f c = pure r ∧ D r = D1 c)) : WS X E B Γ ((s :: b) :: bs) (m1 >>= f) D := fun σ F H ω En en q => by
  refine sK_cons (h1 σ F H ω { En with nx := sK X (b :: bs) En } en (q.bind.imp fun c q => ?_))
  rcases h2 c with ⟨Δ, e, h⟩ | ⟨x, r, e, e2⟩
  · rw [e]
    exact fun σ' F' H' ω' s en' => h σ' F' H' ω' En en' (q.imp fun b z => z.up s)
  · rw [e] at q
    have q1 : EndOk X.K B F En (D r) := q
    rw [e2] at q1
    cases h : D1 c with
    | nx Γ => rw [h] at x; exact x.elim
    | bk Γ => rw [h] at q1; exact q1
    | rt α T a => rw [h] at q1; exact q1
    | ro α O a => rw [h] at q1; exact q1
theorem ws_seq {γ : Type} {s : Stmt} {m1 : Out γ} {Δ : γ → List Slot} {f : γ → Out β} (h1 : W1 X E B Γ s m1 (fun c => .nx (Δ c))) (h2 : ∀ c, WS X E B (Δ c) (b :: bs) (f c) D) : WS X E B Γ ((s :: b) :: bs) (m1 >>= f) D :=
  ws_cons h1 fun c => .inl ⟨_, rfl, h2 c⟩
/-- .. that changes nothing that is known -/
theorem w1_end {s : Stmt} {Δ : List Slot} {b : β} (h : W1 X E B Γ s (pure ()) (fun _ => .nx Δ)) (hD : D b = .nx Δ) : W1 X E B Γ s (pure b) D := fun σ F H ω En en q => h σ F H ω En en (by
  have q1 : EndOk X.K B F En (D b) := q
  rw [hD] at q1
  exact q1)
/-- if -/
theorem ws_if {c : Expr} {A C : List Stmt} {mc : Out Bool} {m1 m2 : Out β} {pos : Pos} (hc : WT X E B Γ c mc) (h1 : WS X E B Γ (A :: b :: bs) m1 D) (h2 : WS X E B Γ (C :: b :: bs) m2 D) :
    WS X E B Γ ((.If c A C pos :: b) :: bs) (mc >>= fun t => if t = true then m1 else m2) D := fun σ F H ω En en q => by
  refine sK_cons ⟨_, ps_if pt_s pss_s pss_s, ?_⟩
  refine hc σ F H ω _ en (q.bind.imp fun t q F1 H1 s1 => ?_)
  cases t with
  | true => exact h1 σ F1 H1 ω En (en.stp s1) (Post.imp q fun b z => EndOk.up z s1.ff)
  | false => exact h2 σ F1 H1 ω En (en.stp s1) (Post.imp q fun b z => EndOk.up z s1.ff)
theorem w1_if {c : Expr} {A C : List Stmt} {mc : Out Bool} {m1 m2 : Out β} {pos : Pos} (hc : WT X E B Γ c mc) (h1 : WS X E B Γ [A] m1 D) (h2 : WS X E B Γ [C] m2 D) :
    W1 X E B Γ (.If c A C pos) (mc >>= fun t => if t = true then m1 else m2) D := fun σ F H ω En en q => by
  refine ⟨_, ps_if pt_s pss_s pss_s, ?_⟩
  refine hc σ F H ω _ en (q.bind.imp fun t q F1 H1 s1 => ?_)
  cases t with
  | true => exact h1 σ F1 H1 ω En (en.stp s1) (Post.imp q fun b z => EndOk.up z s1.ff)
  | false => exact h2 σ F1 H1 ω En (en.stp s1) (Post.imp q fun b z => EndOk.up z s1.ff)
theorem ws_pass {pos : Pos} (h : WS X E B Γ (b :: bs) m D) : WS X E B Γ ((.Pass pos :: b) :: bs) m D := fun σ F H ω En en q => sK_cons ⟨_, ps_pass, h σ F H ω En en q⟩
/-- what is never come to -/
theorem ws_stuck : WS X E B Γ bs (Out.stuck : Out β) D := fun σ F H ω En en q => q.elim
/-- return -/
theorem ws_ret {e : Expr} {α : Type} {T : Ty α} {me : Out α} {g : α → β} {pos : Pos} (h : WE X E B Γ e T.rl me) (hD : ∀ a, D (g a) = .rt α T a) : WS X E B Γ ((.Return (some e) pos :: b) :: bs) (me >>= fun a => pure (g a)) D := fun σ F H ω En en q => by
  refine sK_cons ⟨_, ps_ret pe_s, ?_⟩
  refine h σ F H ω _ en (q.bind.imp fun a q v F1 H1 s1 r => ?_)
  have q1 : EndOk X.K B F En (D (g a)) := q
  rw [hD] at q1
  exact q1 v F1 H1 (en.base.stp s1) r
theorem ws_retO {e : Expr} {α : Type} {O : Own α} {me : Out α} {g : α → β} {pos : Pos} (h : WO X E B Γ e O me) (hD : ∀ a, D (g a) = .ro α O a) : WS X E B Γ ((.Return (some e) pos :: b) :: bs) (me >>= fun a => pure (g a)) D := fun σ F H ω En en q => by
  refine sK_cons ⟨_, ps_ret pe_s, ?_⟩
  refine h σ F H ω _ en (q.bind.imp fun a q v F1 H1 S s1 d r => ?_)
  have q1 : EndOk X.K B F En (D (g a)) := q
  rw [hD] at q1
  exact q1 v F1 H1 S (en.base.stp s1) (fun p hp => ⟨(d p hp).1, (d p hp).2.1, by
    cases e : B.H p with
    | none => rfl
    | some o => exact absurd (d p hp).2.2 (en.base.there p (by rw [e]; exact fun z => nomatch z))⟩) r
/-- an own thing of a slot handed back -/
theorem ws_retV (C : XC X N sc k E) (i : Nat) {x : Str} {p pos : Pos} {α : Type} {O : Own α} {a : α} {r : β} (hW : ∀ p, ¬ B.W p) (hD : D r = .ro α O a) (hΓ : Γ[i]? = some (.on α O a) := by rfl) (hN : N[i]? = some x := by rfl) (hv : Vis sc.sc x := by first | exact Or.inl rfl | exact Or.inr (Or.inl rfl) | exact Or.inr (Or.inr rfl))
    (hd : (x == ("__debug__" : Str)) = false := by decide) (hcd : (x == ("__classdict__" : Str)) = false := by decide) : WS X E B Γ ((.Return (some (.Name x p)) pos :: b) :: bs) (pure r) D := fun σ F H ω En en q => by
  refine sK_cons ⟨_, ps_ret (pv_ C hN hv hd hcd), ?_⟩
  obtain ⟨v, hs, rl⟩ := en.slot i _ hΓ
  have q1 : EndOk X.K B F En (D r) := q
  rw [hD] at q1
  refine ⟨v, join_some hs, q1 v F H _ en.base (fun p hp => ?_) rl⟩
  obtain ⟨z1, z2, z3⟩ := en.own p i hp
  exact ⟨z1, z2, z3.resolve_right (hW p)⟩
end

/-! ### stores -/
theorem env_setO {K : PySem.W.Frag} {Γ : List Slot} {σ : L2.St} {F H : Hp} {ω : Ow} {i : Nat} {v : V} {α : Type} {O : Own α} {a : α} {S : Addr → Prop} (e : EnvOk K B Γ σ F H ω) (d : ∀ p, S p → F p = none ∧ H p ≠ none ∧ ω p = none ∧ B.H p = none) (r : O.rel K F H S v a) :
    ∃ ω', EnvOk K B (Γ.set i (.on α O a)) (σ.set i (some v)) F H ω' := by
  classical
  refine ⟨fun p => if S p then some i else if ω p = some i then none else ω p, e.base, by rw [List.length_set, List.length_set, e.len], fun p j h => ?_, fun j t h => ?_⟩
  · by_cases c : S p
    · obtain ⟨d1, d2, d3, d4⟩ := d p c
      exact ⟨d1, d2, .inl d4⟩
    · simp only [if_neg c] at h
      by_cases c2 : ω p = some i
      · simp only [if_pos c2] at h; cases h
      · simp only [if_neg c2] at h
        exact e.own p j h
  · by_cases c : i = j
    · subst c
      by_cases hi : i < Γ.length
      · rw [List.getElem?_set_self hi] at h
        cases h
        rw [List.getElem?_set_self (by rw [e.len]; exact hi)]
        have es : (fun p => (if S p then some i else if ω p = some i then none else ω p) = some i) = S := funext fun p => propext (by
          by_cases c : S p
          · simp [c]
          · simp only [if_neg c]
            by_cases c2 : ω p = some i
            · simp [c2, c]
            · simp [c2, c])
        rw [es]
        exact ⟨v, rfl, r⟩
      · rw [List.getElem?_eq_none (by rw [List.length_set]; omega)] at h
        cases h
    · rw [List.getElem?_set_ne c] at h
      rw [List.getElem?_set_ne c]
      refine slot_iff (e.slot j t h) fun p => ?_
      by_cases cS : S p
      · simp only [if_pos cS]
        obtain ⟨_, _, d3, _⟩ := d p cS
        rw [d3]
        exact ⟨fun z => absurd (Option.some.inj z) c, fun z => nomatch z⟩
      · simp only [if_neg cS]
        by_cases c2 : ω p = some i
        · simp only [if_pos c2]
          rw [c2]
          exact ⟨(fun z => nomatch z), fun z => absurd (Option.some.inj z) c⟩
        · simp only [if_neg c2]
theorem new_ok {K : PySem.W.Frag} {Γ : List Slot} {σ : L2.St} {F H F' H' : Hp} {ω : Ow} {S : Addr → Prop} (e : EnvOk K B Γ σ F H ω) (s : Stp F H F' H') (d : ∀ p, S p → F' p = none ∧ H' p ≠ none ∧ H p = none) : ∀ p, S p → F' p = none ∧ H' p ≠ none ∧ ω p = none ∧ B.H p = none := fun p hp => by
  obtain ⟨d1, d2, d3⟩ := d p hp
  refine ⟨d1, d2, ?_, ?_⟩
  · cases h : ω p with
    | none => rfl
    | some i => exact absurd d3 (e.own p i h).2.1
  · cases h : B.H p with
    | none => rfl
    | some o => exact absurd d3 (e.base.there p (by rw [h]; exact fun z => nomatch z))
section
variable {β : Type} {D : β → SOut} {b : List Stmt} {bs : List (List Stmt)} {x : Str} {p pos : Pos} {e : Expr} {α : Type}
/-- x = e -/
theorem ws_set (C : XC X N sc k E) (i : Nat) {T : Ty α} {me : Out α} {f : α → Out β} (h : WE X E B Γ e T.rl me) (hr : ∀ a, WS X E B (Γ.set i (iS T a)) (b :: bs) (f a) D) (hN : N[i]? = some x := by rfl) (hl : L2.Loc sc.raw x := by first | exact Or.inl rfl | exact Or.inr rfl)
    (hs : swapsWith e (some (.Name x p)) pos.line X.env = pure false := by rfl) : WS X E B Γ ((.Assign [.Name x p] e pos :: b) :: bs) (me >>= f) D := fun σ F H ω En en q => by
  refine sK_cons ⟨_, ps_set (by rw [C.nm]; exact C.nd) (by rw [C.nm]; exact hN) (C.loc _ hl).1 pe_s hs (C.loc _ hl).2, ?_⟩
  refine h σ F H ω _ en (q.bind.imp fun a q v F1 H1 s1 r => ?_)
  exact hr a _ F1 H1 _ En (env_set (en.stp s1) fun S => ⟨v, rfl, r⟩) (q.imp fun b z => EndOk.up z s1.ff)
theorem ws_setO (C : XC X N sc k E) (i : Nat) {O : Own α} {me : Out α} {f : α → Out β} (h : WO X E B Γ e O me) (hr : ∀ a, WS X E B (Γ.set i (.on α O a)) (b :: bs) (f a) D) (hN : N[i]? = some x := by rfl) (hl : L2.Loc sc.raw x := by first | exact Or.inl rfl | exact Or.inr rfl)
    (hs : swapsWith e (some (.Name x p)) pos.line X.env = pure false := by rfl) : WS X E B Γ ((.Assign [.Name x p] e pos :: b) :: bs) (me >>= f) D := fun σ F H ω En en q => by
  refine sK_cons ⟨_, ps_set (by rw [C.nm]; exact C.nd) (by rw [C.nm]; exact hN) (C.loc _ hl).1 pe_s hs (C.loc _ hl).2, ?_⟩
  refine h σ F H ω _ en (q.bind.imp fun a q v F1 H1 S s1 d r => ?_)
  obtain ⟨ω', en'⟩ := env_setO (i := i) (en.stp s1) (new_ok en s1 d) r
  exact hr a _ F1 H1 _ En en' (q.imp fun b z => EndOk.up z s1.ff)
/-- a, b = e; (a, b), c = e -/
theorem ws_asg (C : XC X N sc k E) {tg : Expr} {T : Ty α} {g : α → List Slot → List Slot} {me : Out α} {f : α → Out β} (h : WE X E B Γ e T.rl me) {ix : List Nat} (hg : WG X B tg T ix g) (hr : ∀ a, WS X E B (g a Γ) (b :: bs) (f a) D)
    (hs : swapsWithSole [tg] e pos.line X.env = pure false := by rfl) (hw : swappedStores [tg] e X.env = pure none := by rfl) (h1 : (assignEach [tg] X.env).map (·.2) = [assign tg X.env] := by rfl) : WS X E B Γ ((.Assign [tg] e pos :: b) :: bs) (me >>= f) D := fun σ F H ω En en q => by
  refine sK_cons ⟨_, ps_asg pe_s pg_s hs hw h1, ?_⟩
  refine h σ F H ω _ en (q.bind.imp fun a q v F1 H1 s1 r => ?_)
  exact hg σ F1 H1 ω Γ v a _ (en.stp s1) r fun σ' ω' _ _ _ en' => hr a σ' F1 H1 ω' En en' (q.imp fun b z => EndOk.up z s1.ff)
/-- an own thing becomes fixed -/
theorem env_fz {K : PySem.W.Frag} {Γ : List Slot} {σ : L2.St} {F H : Hp} {ω : Ow} {i : Nat} {O : Own α} {T : Ty α} {a : α} (z : Fz O T) (hW : ∀ p, ¬ B.W p) (e : EnvOk K B Γ σ F H ω) (h : Γ[i]? = some (.on α O a)) :
    EnvOk K B (Γ.set i (iS T a)) σ (frz F H (fun p => ω p = some i)) H (fun p => if ω p = some i then none else ω p) ∧ Same F (frz F H (fun p => ω p = some i)) := by
  have dj : ∀ p, ω p = some i → F p = none := fun p hp => (e.own p i hp).1
  have sm := frz_same (H := H) dj
  refine ⟨⟨⟨e.base.ff.trans sm, frz_sub e.base.fh, e.base.hh, e.base.there, fun p h1 h2 => ?_⟩, by rw [List.length_set, e.len], fun p j hj => ?_, fun j t hj => ?_⟩, sm⟩
  · by_cases c : ω p = some i
    · have z3 := (e.own p i c).2.2.resolve_right (hW p)
      exact absurd z3 h2
    · rw [frz_out c]
      exact e.base.old p h1 h2
  · by_cases c : ω p = some i
    · rw [if_pos c] at hj; cases hj
    · rw [if_neg c] at hj
      obtain ⟨z1, z2, z3⟩ := e.own p j hj
      exact ⟨by rw [frz_out c]; exact z1, z2, z3⟩
  · by_cases c : i = j
    · subst c
      have hi : i < Γ.length := (List.getElem?_eq_some_iff.mp h).1
      rw [List.getElem?_set_self hi] at hj
      cases hj
      obtain ⟨v, hv, r⟩ := e.slot i _ h
      exact ⟨v, hv, z K F H _ v a dj r⟩
    · rw [List.getElem?_set_ne c] at hj
      refine slot_iff (Slot.keep (e.slot j t hj) sm fun p _ => rfl) fun p => ?_
      by_cases c2 : ω p = some i
      · simp only [if_pos c2]
        rw [c2]
        exact ⟨(fun z => nomatch z), fun z => absurd (Option.some.inj z) c⟩
      · simp only [if_neg c2]
theorem ws_fz (i : Nat) {O : Own α} {T : Ty α} {a : α} {m : Out β} (z : Fz O T) (hW : ∀ p, ¬ B.W p) (hΓ : Γ[i]? = some (.on α O a)) (h : WS X E B (Γ.set i (iS T a)) bs m D) : WS X E B Γ bs m D := fun σ F H ω En en q => by
  obtain ⟨e1, e2⟩ := env_fz z hW en hΓ
  exact h σ _ H _ En e1 (q.imp fun b z => EndOk.up z e2)
end
end SL

set_option Elab.async false
set_option linter.all false
set_option maxRecDepth 100000
set_option maxHeartbeats 2000000
/-! SLf: own lists changed; loops; comprehensions. -/
namespace SL
open PySem PySem.Spec PyProof.Rows L2
variable {X : Cx} {N : List Str} {sc : Scp} {k : Nat} {E : XK} {B : Bs} {Γ : List Slot}

/-! ### own lists changed -/
/-- the object at p of the own thing in slot i is written -/
theorem env_wr {K : PySem.W.Frag} {Γ : List Slot} {σ : L2.St} {F H : Hp} {ω : Ow} {i : Nat} {α β : Type} {O : Own α} {O' : Own β} {a : α} {a' : β} {p : Addr} {o : HO} {v : V} (e : EnvOk K B Γ σ F H ω) (h : Γ[i]? = some (.on α O a)) (hv : σ[i]? = some (some v)) (hp : ω p = some i)
    (r : O'.rel K F (upd H p o) (fun q => ω q = some i) v a') : EnvOk K B (Γ.set i (.on β O' a')) σ F (upd H p o) ω := by
  obtain ⟨z1, z2, z3⟩ := e.own p i hp
  refine ⟨⟨e.base.ff, fun q u hq => ?_, fun q u hq hw => ?_, fun q hq => ?_, e.base.old⟩, by rw [List.length_set, e.len], fun q j hj => ?_, fun j t hj => ?_⟩
  · rw [upd_ne (fun z => by rw [z, z1] at hq; cases hq)]
    exact e.base.fh q u hq
  · have ne : q ≠ p := fun z => by
      subst z
      rcases z3 with z3 | z3
      · rw [z3] at hq; cases hq
      · exact hw z3
    rw [upd_ne ne]
    exact e.base.hh q u hq hw
  · by_cases c : q = p
    · subst c
      rw [upd_same]
      exact fun z => nomatch z
    · rw [upd_ne c]
      exact e.base.there q hq
  · obtain ⟨y1, y2, y3⟩ := e.own q j hj
    refine ⟨y1, ?_, y3⟩
    by_cases c : q = p
    · subst c
      rw [upd_same]
      exact fun z => nomatch z
    · rw [upd_ne c]
      exact y2
  · by_cases c : i = j
    · subst c
      have hi : i < Γ.length := (List.getElem?_eq_some_iff.mp h).1
      rw [List.getElem?_set_self hi] at hj
      cases hj
      exact ⟨v, by rw [hv] <;> rfl, r⟩
    · rw [List.getElem?_set_ne c] at hj
      refine Slot.keep (e.slot j t hj) (Same.refl F) fun q hq => ?_
      exact upd_ne fun z => by
        rw [z, hp] at hq
        exact c (Option.some.inj hq)
/-- the own list in slot i as it stands -/
theorem own_lst {K : PySem.W.Frag} {Γ : List Slot} {σ : L2.St} {F H : Hp} {ω : Ow} {i : Nat} {α : Type} {T : Ty α} {a : List α} (e : EnvOk K B Γ σ F H ω) (h : Γ[i]? = some (.on _ (oLst T) a)) :
    ∃ p vs, σ[i]? = some (some (.ref p)) ∧ ω p = some i ∧ H p = some (.lst vs) ∧ Fa2 (T.rel K F) vs a := by
  obtain ⟨v, hv, p, vs, rfl, hp, hH, r⟩ := e.slot i _ h
  exact ⟨p, vs, join_some hv, hp, hH, r⟩
theorem env_lst {K : PySem.W.Frag} {Γ : List Slot} {σ : L2.St} {F H : Hp} {ω : Ow} {i : Nat} {α : Type} {T : Ty α} {a a' : List α} {p : Addr} {vs' : List V} (e : EnvOk K B Γ σ F H ω) (h : Γ[i]? = some (.on _ (oLst T) a)) (hv : σ[i]? = some (some (.ref p))) (hp : ω p = some i)
    (r : Fa2 (T.rel K F) vs' a') : EnvOk K B (Γ.set i (.on _ (oLst T) a')) σ F (upd H p (.lst vs')) ω := env_wr e h hv hp ⟨p, vs', rfl, hp, upd_same, r⟩
def appO {α : Type} (xs : List α) (x : α) : Out (List α) := if xs.length < 16777216 then pure (xs ++ [x]) else .stuck
/-- the place that an index means, of n -/
def ixO (n : Nat) (i : Int) : Out Nat := match ixN n i with
  | some j => pure j
  | none => .stuck
def setO {α : Type} (xs : List α) (i : Int) (x : α) : Out (List α) := ixO xs.length i >>= fun j => pure (xs.set j x)
section
variable {β : Type} {D : β → SOut} {b : List Stmt} {bs : List (List Stmt)} {x : Str} {p p2 p3 pos : Pos} {e e2 : Expr} {α : Type} {T : Ty α} {xs : List α} {me : Out α} {mi : Out Int} {f : List α → Out β}
/-- x.append(e) -/
theorem ws_app (C : XC X N sc k E) (i : Nat) (h : WE X E B Γ e T.rl me) (hr : ∀ a, WS X E B (Γ.set i (.on _ (oLst T) a)) (b :: bs) (f a) D) (hΓ : Γ[i]? = some (.on _ (oLst T) xs) := by rfl) (hN : N[i]? = some x := by rfl) (hv : Vis sc.sc x := by first | exact Or.inl rfl | exact Or.inr (Or.inl rfl) | exact Or.inr (Or.inr rfl))
    (hd : (x == ("__debug__" : Str)) = false := by decide) (hcd : (x == ("__classdict__" : Str)) = false := by decide) (hbase : attributeBase (.Name x p) "append" X.env (eval (.Name x p) X.env) = eval (.Name x p) X.env := by rfl)
    (hfew : ((backTo p3 (starEach (e :: []) X.env)).all (fun x => !x.1) && (backToKw p3 (keywordEach [] X.env)).all (fun x => x.1.isSome) && decide ((e :: []).length + ([] : List Keyword).length + (if ([] : List Keyword).isEmpty then 0 else 1) < 30)) = true := by rfl)
    (hline : (p2.endLine == p3.line) = true := by rfl) (hs : starEach (e :: []) X.env = (false, eval e X.env) :: starEach [] X.env := by rfl) (hsw : swapsWith (.Call (.Attribute (.Name x p) "append" p2) [e] [] p3) none pos.line X.env = pure false := by rfl) :
    WS X E B Γ ((.Expr (.Call (.Attribute (.Name x p) "append" p2) [e] [] p3) pos :: b) :: bs) (me >>= fun a => appO xs a >>= f) D := fun σ F H ω En en q => by
  refine sK_cons ⟨_, ps_expr (pe_bm PySem.F.plainAttrs_list PySem.F.slot_list_append PySem.F.type_list_append mt_append (pv_ C hN hv hd hcd) (pa_cons pe_s pa_nil hs) hbase hfew hline hs) hsw, ?_⟩
  obtain ⟨l, vs, hσ, hl, hH, r⟩ := own_lst en hΓ
  refine ⟨_, hσ, .inl ⟨rfl, _, SqL.of hH⟩, h σ F H ω _ en (q.bind.imp fun a q v F1 H1 s1 ra => ?_)⟩
  unfold appO at q
  by_cases c : xs.length < 16777216
  · rw [if_pos c] at q
    have en1 := en.stp s1
    have r1 : Fa2 (T.rel X.K F1) vs xs := r.imp fun _ _ => T.mono s1.ff
    refine ⟨l, vs, v, rfl, rfl, s1.hh _ _ hH, by rw [r.len, sizeLine_eq]; exact c, ?_⟩
    exact hr _ σ F1 _ ω En (env_lst en1 hΓ hσ hl (r1.app (.cons ra .nil))) (Post.imp q fun b z => EndOk.up z s1.ff)
  · rw [if_neg c] at q
    exact q.elim
/-- x[i] = e -/
theorem ws_setI (C : XC X N sc k E) (i : Nat) {ei : Expr} (h : WE X E B Γ e T.rl me) (hi : WE X E B Γ ei tInt.rl mi) (hr : ∀ a, WS X E B (Γ.set i (.on _ (oLst T) a)) (b :: bs) (f a) D) (hΓ : Γ[i]? = some (.on _ (oLst T) xs) := by rfl) (hN : N[i]? = some x := by rfl)
    (hv : Vis sc.sc x := by first | exact Or.inl rfl | exact Or.inr (Or.inl rfl) | exact Or.inr (Or.inr rfl)) (hd : (x == ("__debug__" : Str)) = false := by decide) (hcd : (x == ("__classdict__" : Str)) = false := by decide)
    (ha : ∀ v, assign (.Subscript (.Name x p) ei p2) X.env v = (do
      let ov ← holding [v] (eval (.Name x p) X.env)
      let iv ← holding [v, ov] (eval ei X.env)
      standAt p2
      holding [v, ov, iv] (setItem ov iv v)
      release [v, ov, iv] []) := by intro _; rfl)
    (hs : swapsWithSole [.Subscript (.Name x p) ei p2] e pos.line X.env = pure false := by rfl) (hw : swappedStores [.Subscript (.Name x p) ei p2] e X.env = pure none := by rfl) (h1 : (assignEach [.Subscript (.Name x p) ei p2] X.env).map (·.2) = [assign (.Subscript (.Name x p) ei p2) X.env] := by rfl) :
    WS X E B Γ ((.Assign [.Subscript (.Name x p) ei p2] e pos :: b) :: bs) (me >>= fun a => mi >>= fun j => setO xs j a >>= f) D := fun σ F H ω En en q => by
  refine sK_cons ⟨_, ps_asg pe_s (pg_sub (pv_ C hN hv hd hcd) pe_s set_list ha) hs hw h1, ?_⟩
  refine h σ F H ω _ en (q.bind.imp fun a q v F1 H1 s1 ra => ?_)
  have en1 := en.stp s1
  obtain ⟨l, vs, hσ, hl, hH, r⟩ := own_lst en1 hΓ
  refine ⟨_, hσ, hi σ F1 H1 ω _ en1 (q.bind.imp fun j q v2 F2 H2 s2 rj => ?_)⟩
  have en2 := en1.stp s2
  have r2 : Fa2 (T.rel X.K F2) vs xs := r.imp fun _ _ => T.mono s2.ff
  unfold setO ixO at q
  cases hj : ixN xs.length j with
  | none => rw [hj] at q; exact q.elim
  | some n =>
    rw [hj] at q
    refine ⟨l, vs, j, n, rfl, rj, s2.hh _ _ hH, by rw [r.len]; exact hj, ?_⟩
    exact hr _ σ F2 _ ω En (env_lst en2 hΓ hσ hl (r2.set (T.mono s2.ff ra) n)) (Post.imp q fun b z => EndOk.up z (s1.ff.trans s2.ff))
end

/-! ### for -/
section
variable {tg iter : Expr} {body : List Stmt} {pos : Pos} {α β ρ S : Type} {T : Ty α} {mi : Out (List α)} {g : α → List Slot → List Slot}
theorem for_core (C : XC X N sc k E) (hit : WI X E B Γ tg iter T mi) {σ : L2.St} {F H : Hp} {ω : Ow} {En : Ends} (en : EnvOk X.K B Γ σ F H ω) (Iv : List α → L2.St → Hp → Hp → Prop)
    (hw : Post mi (fun xs => ∀ F1 H1, Stp F H F1 H1 → Iv xs σ F1 H1) (RB X.K B E)) (hF : ∀ xs σ F H, Iv xs σ F H → Same F H) (hd : ∀ σ F H, Iv [] σ F H → En.nx σ H)
    (hs : ∀ a rest σ F H x F' H', Iv (a :: rest) σ F H → Stp F H F' H' → T.rel X.K F' x a → ∀ Nx : L2.St → Hp → Prop, (∀ σ3 F3 H3, Same F' F3 → Iv rest σ3 F3 H3 → Nx σ3 H3) → sG X tg x σ H' fun σ2 H2 => sSs X body { En with nx := Nx, ct := Nx, bk := En.nx } σ2 H2)
    (hf : ∀ x, foldedSetIterable iter X.env x = pure x) : sS X (.For tg iter body [] pos) En σ H := by
  refine ⟨_, ps_for C.own C.calm pi_s pg_s pss_s hf, ?_⟩
  refine hit σ F H ω _ en (hw.imp fun xs q J F1 H1 s1 tw hl => ?_)
  refine ⟨fun i m σ' H' => m = xs.length - i ∧ i ≤ xs.length ∧ ∃ F', Same F1 F' ∧ Iv (xs.drop i) σ' F' H', ⟨xs.length, by simp, Nat.zero_le _, F1, Same.refl F1, by rw [List.drop_zero]; exact q F1 H1 s1⟩, ?_⟩
  rintro i m σ' H' ⟨rfl, hi, F', sf, iv⟩
  by_cases hlt : i < xs.length
  · have ed : xs.drop i = xs[i] :: xs.drop (i + 1) := by rw [List.drop_eq_getElem_cons hlt]
    rw [ed] at iv
    have fh := hF _ _ _ _ iv
    refine .inr ⟨tw.goes i F' H' hlt sf fh, fun σ3 H3 => ∃ F3, Same F1 F3 ∧ Iv (xs.drop (i + 1)) σ3 F3 H3, fun σ3 H3 ⟨F3, s3, v3⟩ => ⟨xs.length - (i + 1), by omega, rfl, hlt, F3, s3, v3⟩, fun x H2 y => ?_⟩
    obtain ⟨F2, a, s2, ea, ra⟩ := tw.yields i F' H' x H2 hlt sf fh y
    have ea2 : xs[i] = a := by
      rw [List.getElem?_eq_getElem hlt] at ea
      exact Option.some.inj ea
    rw [ea2] at iv
    exact hs a _ σ' F' H' x F2 H2 iv s2 ra _ fun σ3 F3 H3 s3 v3 => ⟨F3, (sf.trans s2.ff).trans s3, v3⟩
  · have e : i = xs.length := by omega
    subst e
    rw [List.drop_length] at iv
    exact .inl ⟨tw.stops F' H' sf (hF _ _ _ _ iv), hd _ _ _ iv⟩
/-- no way out of the loop -/
def forO {α S : Type} (f : S → α → Out S) : List α → S → Out S
  | [], s => pure s
  | x :: xs, s => f s x >>= fun s' => forO f xs s'
theorem w1_for (C : XC X N sc k E) (hit : WI X E B Γ tg iter T mi) {ix : List Nat} (hg : WG X B tg T ix g) {Δ : S → List Slot} {s0 : S} {f : S → α → Out S} (w0 : Weak Γ (Δ s0)) (hb : ∀ s a, WS X E B (g a (Δ s)) [body] (f s a) (fun s' => .nx (Δ s')))
    (hf : ∀ x, foldedSetIterable iter X.env x = pure x := by intro _; rfl) : W1 X E B Γ (.For tg iter body [] pos) (mi >>= fun xs => forO f xs s0) (fun s => .nx (Δ s)) := fun σ F H ω En en q => by
  refine for_core C hit en (fun xs σ' F' H' => Same F F' ∧ ∃ s ω', EnvOk X.K B (Δ s) σ' F' H' ω' ∧ Post (forO f xs s) (fun s => EndOk X.K B F En (.nx (Δ s))) (RB X.K B E))
    (q.bind.imp fun xs q F1 H1 s1 => ⟨s1.ff, s0, ω, (en.stp s1).weak w0, q⟩) (fun xs σ' F' H' ⟨_, s, ω', en', _⟩ => en'.fh) (fun σ' F' H' ⟨sf, s, ω', en', q⟩ => ?_) (fun a rest σ' F' H' x F2 H2 ⟨sf, s, ω', en', q⟩ s2 ra Nx hN => ?_) hf
  · have q1 : EndOk X.K B F En (.nx (Δ s)) := q
    exact q1 σ' F' H' ω' sf en'
  · refine hg σ' F2 H2 ω' (Δ s) x a _ (en'.stp s2) ra fun σ3 ω3 _ _ _ en3 => ?_
    have h := hb s a σ3 F2 H2 ω3 { En with nx := Nx, ct := Nx, bk := En.nx } en3 (Post.imp (Post.bind q) fun s' q σ4 F4 H4 ω4 s4 en4 => hN σ4 F4 H4 s4 ⟨(sf.trans s2.ff).trans s4, s', ω4, en4, q⟩)
    exact h
/-- with a return within -/
inductive Step (ρ S : Type) where
  | nx (s : S)
  | rt (r : ρ)
def forR {α S ρ : Type} (f : S → α → Out (Step ρ S)) : List α → S → Out (Step ρ S)
  | [], s => pure (.nx s)
  | x :: xs, s => f s x >>= fun t => match t with
    | .nx s' => forR f xs s'
    | .rt r => pure (.rt r)
/-- the ends of a loop's turn that may return -/
def DR {ρ S : Type} (Δ : S → List Slot) (Rt : ρ → SOut) : Step ρ S → SOut
  | .nx s => .nx (Δ s)
  | .rt r => Rt r
theorem w1_forR (C : XC X N sc k E) (hit : WI X E B Γ tg iter T mi) {ix : List Nat} (hg : WG X B tg T ix g) {Δ : S → List Slot} {s0 : S} {f : S → α → Out (Step ρ S)} {Rt : ρ → SOut} (w0 : Weak Γ (Δ s0)) (hb : ∀ s a, WS X E B (g a (Δ s)) [body] (f s a) (DR Δ Rt))
    (hR : ∀ r, (∃ α T a, Rt r = .rt α T a) ∨ (∃ α O a, Rt r = .ro α O a)) (hf : ∀ x, foldedSetIterable iter X.env x = pure x := by intro _; rfl) : W1 X E B Γ (.For tg iter body [] pos) (mi >>= fun xs => forR f xs s0) (DR Δ Rt) := fun σ F H ω En en q => by
  refine for_core C hit en (fun xs σ' F' H' => Same F F' ∧ ∃ s ω', EnvOk X.K B (Δ s) σ' F' H' ω' ∧ Post (forR f xs s) (fun t => EndOk X.K B F En (DR Δ Rt t)) (RB X.K B E))
    (q.bind.imp fun xs q F1 H1 s1 => ⟨s1.ff, s0, ω, (en.stp s1).weak w0, q⟩) (fun xs σ' F' H' ⟨_, s, ω', en', _⟩ => en'.fh) (fun σ' F' H' ⟨sf, s, ω', en', q⟩ => ?_) (fun a rest σ' F' H' x F2 H2 ⟨sf, s, ω', en', q⟩ s2 ra Nx hN => ?_) hf
  · have q1 : EndOk X.K B F En (.nx (Δ s)) := q
    exact q1 σ' F' H' ω' sf en'
  · refine hg σ' F2 H2 ω' (Δ s) x a _ (en'.stp s2) ra fun σ3 ω3 _ _ _ en3 => ?_
    have h := hb s a σ3 F2 H2 ω3 { En with nx := Nx, ct := Nx, bk := En.nx } en3 (Post.imp (Post.bind q) fun t q => ?_)
    · exact h
    · cases t with
      | nx s' => exact fun σ4 F4 H4 ω4 s4 en4 => hN σ4 F4 H4 s4 ⟨(sf.trans s2.ff).trans s4, s', ω4, en4, q⟩
      | rt r =>
        have q1 : EndOk X.K B F En (Rt r) := q
        show EndOk X.K B F2 _ (Rt r)
        rcases hR r with ⟨α, T, a, e⟩ | ⟨α, O, a, e⟩
        · rw [e] at q1 ⊢
          exact q1
        · rw [e] at q1 ⊢
          exact q1
/-- with a break within -/
inductive Brk (S : Type) where
  | go (s : S)
  | out (s : S)
def forB {α S : Type} (f : S → α → Out (Brk S)) : List α → S → Out S
  | [], s => pure s
  | x :: xs, s => f s x >>= fun t => match t with
    | .go s' => forB f xs s'
    | .out s' => pure s'
def DB {S : Type} (Δ : S → List Slot) : Brk S → SOut
  | .go s => .nx (Δ s)
  | .out s => .bk (Δ s)
theorem w1_forB (C : XC X N sc k E) (hit : WI X E B Γ tg iter T mi) {ix : List Nat} (hg : WG X B tg T ix g) {Δ : S → List Slot} {s0 : S} {f : S → α → Out (Brk S)} (w0 : Weak Γ (Δ s0)) (hb : ∀ s a, WS X E B (g a (Δ s)) [body] (f s a) (DB Δ))
    (hf : ∀ x, foldedSetIterable iter X.env x = pure x := by intro _; rfl) : W1 X E B Γ (.For tg iter body [] pos) (mi >>= fun xs => forB f xs s0) (fun s => .nx (Δ s)) := fun σ F H ω En en q => by
  refine for_core C hit en (fun xs σ' F' H' => Same F F' ∧ ∃ s ω', EnvOk X.K B (Δ s) σ' F' H' ω' ∧ Post (forB f xs s) (fun s => EndOk X.K B F En (.nx (Δ s))) (RB X.K B E))
    (q.bind.imp fun xs q F1 H1 s1 => ⟨s1.ff, s0, ω, (en.stp s1).weak w0, q⟩) (fun xs σ' F' H' ⟨_, s, ω', en', _⟩ => en'.fh) (fun σ' F' H' ⟨sf, s, ω', en', q⟩ => ?_) (fun a rest σ' F' H' x F2 H2 ⟨sf, s, ω', en', q⟩ s2 ra Nx hN => ?_) hf
  · have q1 : EndOk X.K B F En (.nx (Δ s)) := q
    exact q1 σ' F' H' ω' sf en'
  · refine hg σ' F2 H2 ω' (Δ s) x a _ (en'.stp s2) ra fun σ3 ω3 _ _ _ en3 => ?_
    have h := hb s a σ3 F2 H2 ω3 { En with nx := Nx, ct := Nx, bk := En.nx } en3 (Post.imp (Post.bind q) fun t q => ?_)
    · exact h
    · cases t with
      | go s' => exact fun σ4 F4 H4 ω4 s4 en4 => hN σ4 F4 H4 s4 ⟨(sf.trans s2.ff).trans s4, s', ω4, en4, q⟩
      | out s' =>
        have q1 : EndOk X.K B F En (.nx (Δ s')) := q
        exact fun σ4 F4 H4 ω4 s4 en4 => q1 σ4 F4 H4 ω4 ((sf.trans s2.ff).trans s4) en4
theorem ws_break {S' : Type} {D : S' → SOut} {b : List Stmt} {bs : List (List Stmt)} {pos : Pos} {r : S'} {Δ : List Slot} (hD : D r = .bk Δ) (w : Weak Γ Δ) : WS X E B Γ ((.Break pos :: b) :: bs) (pure r) D := fun σ F H ω En en q => by
  refine sK_cons ⟨_, ps_break, ?_⟩
  have q1 : EndOk X.K B F En (D r) := q
  rw [hD] at q1
  exact q1 σ F H ω (Same.refl F) (en.weak w)
end

/-! ### while -/
section
variable {c : Expr} {body : List Stmt} {pos : Pos} {S ρ : Type}
def whileO {S : Type} (c : S → Out Bool) (f : S → Out S) : Nat → S → Out S
  | 0, _ => .stuck
  | n + 1, s => c s >>= fun t => if t = true then f s >>= fun s' => whileO c f n s' else pure s
theorem w1_while (C : XC X N sc k E) {Δ : S → List Slot} {s0 : S} {mc : S → Out Bool} {f : S → Out S} (n : Nat) (w0 : Weak Γ (Δ s0)) (hc : ∀ s, WT X E B (Δ s) c (mc s)) (hb : ∀ s, WS X E B (Δ s) [body] (f s) (fun s' => .nx (Δ s'))) :
    W1 X E B Γ (.While c body [] pos) (whileO mc f n s0) (fun s => .nx (Δ s)) := fun σ F H ω En en q => by
  refine ⟨_, ps_while C.own pt_s pss_s, ?_⟩
  refine ⟨fun m σ' H' => ∃ s F' ω', Same F F' ∧ EnvOk X.K B (Δ s) σ' F' H' ω' ∧ Post (whileO mc f m s) (fun s => EndOk X.K B F En (.nx (Δ s))) (RB X.K B E), ⟨n, s0, F, ω, Same.refl F, en.weak w0, q⟩, ?_⟩
  rintro m σ' H' ⟨s, F', ω', sf, en', q⟩
  cases m with
  | zero => exact q.elim
  | succ m =>
    refine hc s σ' F' H' ω' _ en' (Post.imp (Post.bind q) fun t q F1 H1 s1 => ?_)
    have en1 := en'.stp s1
    cases t with
    | false =>
      have q1 : EndOk X.K B F En (.nx (Δ s)) := q
      exact q1 σ' F1 H1 ω' (sf.trans s1.ff) en1
    | true =>
      refine ⟨_, fun σ2 H2 h => h, ?_⟩
      have h := hb s σ' F1 H1 ω' { En with nx := fun σ2 H2 => ∃ m', m' < m + 1 ∧ ∃ s F' ω', Same F F' ∧ EnvOk X.K B (Δ s) σ2 F' H2 ω' ∧ Post (whileO mc f m' s) (fun s => EndOk X.K B F En (.nx (Δ s))) (RB X.K B E), ct := fun σ2 H2 => ∃ m', m' < m + 1 ∧ ∃ s F' ω', Same F F' ∧ EnvOk X.K B (Δ s) σ2 F' H2 ω' ∧ Post (whileO mc f m' s) (fun s => EndOk X.K B F En (.nx (Δ s))) (RB X.K B E), bk := En.nx } en1
        (Post.imp (Post.bind q) fun s' q σ4 F4 H4 ω4 s4 en4 => ⟨m, Nat.lt_succ_self m, s', F4, ω4, (sf.trans s1.ff).trans s4, en4, q⟩)
      exact h
def whileR {S ρ : Type} (c : S → Out Bool) (f : S → Out (Step ρ S)) : Nat → S → Out (Step ρ S)
  | 0, _ => .stuck
  | n + 1, s => c s >>= fun t => if t = true then f s >>= fun t => match t with
      | .nx s' => whileR c f n s'
      | .rt r => pure (.rt r)
    else pure (.nx s)
theorem w1_whileR (C : XC X N sc k E) {Δ : S → List Slot} {s0 : S} {mc : S → Out Bool} {f : S → Out (Step ρ S)} {Rt : ρ → SOut} (n : Nat) (w0 : Weak Γ (Δ s0)) (hc : ∀ s, WT X E B (Δ s) c (mc s)) (hb : ∀ s, WS X E B (Δ s) [body] (f s) (DR Δ Rt))
    (hR : ∀ r, (∃ α T a, Rt r = .rt α T a) ∨ (∃ α O a, Rt r = .ro α O a)) : W1 X E B Γ (.While c body [] pos) (whileR mc f n s0) (DR Δ Rt) := fun σ F H ω En en q => by
  refine ⟨_, ps_while C.own pt_s pss_s, ?_⟩
  refine ⟨fun m σ' H' => ∃ s F' ω', Same F F' ∧ EnvOk X.K B (Δ s) σ' F' H' ω' ∧ Post (whileR mc f m s) (fun t => EndOk X.K B F En (DR Δ Rt t)) (RB X.K B E), ⟨n, s0, F, ω, Same.refl F, en.weak w0, q⟩, ?_⟩
  rintro m σ' H' ⟨s, F', ω', sf, en', q⟩
  cases m with
  | zero => exact q.elim
  | succ m =>
    refine hc s σ' F' H' ω' _ en' (Post.imp (Post.bind q) fun t q F1 H1 s1 => ?_)
    have en1 := en'.stp s1
    cases t with
    | false =>
      have q1 : EndOk X.K B F En (.nx (Δ s)) := q
      exact q1 σ' F1 H1 ω' (sf.trans s1.ff) en1
    | true =>
      refine ⟨_, fun σ2 H2 h => h, ?_⟩
      have h := hb s σ' F1 H1 ω' { En with nx := fun σ2 H2 => ∃ m', m' < m + 1 ∧ ∃ s F' ω', Same F F' ∧ EnvOk X.K B (Δ s) σ2 F' H2 ω' ∧ Post (whileR mc f m' s) (fun t => EndOk X.K B F En (DR Δ Rt t)) (RB X.K B E), ct := fun σ2 H2 => ∃ m', m' < m + 1 ∧ ∃ s F' ω', Same F F' ∧ EnvOk X.K B (Δ s) σ2 F' H2 ω' ∧ Post (whileR mc f m' s) (fun t => EndOk X.K B F En (DR Δ Rt t)) (RB X.K B E), bk := En.nx } en1
        (Post.imp (Post.bind q) fun t q => ?_)
      · exact h
      · cases t with
        | nx s' => exact fun σ4 F4 H4 ω4 s4 en4 => ⟨m, Nat.lt_succ_self m, s', F4, ω4, (sf.trans s1.ff).trans s4, en4, q⟩
        | rt r =>
          have q1 : EndOk X.K B F En (Rt r) := q
          show EndOk X.K B F1 _ (Rt r)
          rcases hR r with ⟨α, T, a, e⟩ | ⟨α, O, a, e⟩
          · rw [e] at q1 ⊢
            exact q1
          · rw [e] at q1 ⊢
            exact q1
end
end SL

set_option Elab.async false
set_option linter.all false
set_option maxRecDepth 100000
set_option maxHeartbeats 2000000
/-! SLg: comprehensions. -/
namespace SL
open PySem PySem.Spec PyProof.Rows L2
variable {X : Cx} {N : List Str} {sc : Scp} {k : Nat} {E : XK} {B : Bs} {Γ : List Slot}

abbrev bx (X : Cx) (scope : Scope) (s : Shared) (H : Hp) (Cc : Addr) (cl : List (Str × Addr)) (fp : List Addr) : Cx := X.blk s H scope (compEnvC scope cl Cc X.env) fp
/-- in all blocks of the scope -/
def uE (X : Cx) (scope : Scope) (e : Expr) : TE := fun σ H Q => ∀ s H' Cc cl fp, sE (bx X scope s H' Cc cl fp) e σ H Q
def uG (X : Cx) (scope : Scope) (e : Expr) : TG := fun v σ H Q => ∀ s H' Cc cl fp, sG (bx X scope s H' Cc cl fp) e v σ H Q
def sTs (X : Cx) (ifs : List Expr) : TT := fun σ H Q => ∃ t, PTs X ifs t ∧ t σ H Q
def uT (X : Cx) (scope : Scope) (ifs : List Expr) : TT := fun σ H Q => ∀ s H' Cc cl fp, sTs (bx X scope s H' Cc cl fp) ifs σ H Q
def uI (X : Cx) (scope : Scope) (tg iter : Expr) : TI := fun σ H R => ∀ s H' Cc cl fp, sI (bx X scope s H' Cc cl fp) tg iter σ H R
theorem pe_u {scope : Scope} {e : Expr} (s : Shared) (H' : Hp) (Cc : Addr) (cl : List (Str × Addr)) (fp : List Addr) : PE (bx X scope s H' Cc cl fp) e (uE X scope e) := ⟨fun pins s' σ H Q I h => pe_s.run pins s' σ H Q I (h s H' Cc cl fp)⟩
theorem pg_u {scope : Scope} {e : Expr} (s : Shared) (H' : Hp) (Cc : Addr) (cl : List (Str × Addr)) (fp : List Addr) : PG (bx X scope s H' Cc cl fp) e (uG X scope e) := ⟨fun pins s' σ H v u Q I r h => pg_s.run pins s' σ H v u Q I r (h s H' Cc cl fp)⟩
theorem pts_s {ifs : List Expr} : PTs X ifs (sTs X ifs) := ⟨fun pins s σ H Q I ⟨_, p, h⟩ => p.run pins s σ H Q I h⟩
theorem pts_u {scope : Scope} {ifs : List Expr} (s : Shared) (H' : Hp) (Cc : Addr) (cl : List (Str × Addr)) (fp : List Addr) : PTs (bx X scope s H' Cc cl fp) ifs (uT X scope ifs) := ⟨fun pins s' σ H Q I h => pts_s.run pins s' σ H Q I (h s H' Cc cl fp)⟩
theorem pi_u {scope : Scope} {tg iter : Expr} (s : Shared) (H' : Hp) (Cc : Addr) (cl : List (Str × Addr)) (fp : List Addr) : PI (bx X scope s H' Cc cl fp) tg iter (uI X scope tg iter) := ⟨fun pins s' σ H R I h => pi_s.run pins s' σ H R I (h s H' Cc cl fp)⟩
theorem relS_loc {scope s0 : Scope} {x : Str} (h : L2.Loc scope x) : L2.Loc (relS scope s0) x := by
  rcases h with h | h
  · exact .inl (lookup_relS_keep (by decide) h)
  · exact .inr (lookup_relS_keep (by decide) h)
/-- a block's context -/
theorem xc_blk (C : XC X N sc k E) {scope : Scope} (s : Shared) (H' : Hp) (Cc : Addr) (cl : List (Str × Addr)) (fp : List Addr) : XC (bx X scope s H' Cc cl fp) N ⟨relS scope sc.sc, scope⟩ k E0 := by
  refine ⟨C.nm, C.nd, ?_, C.calm, C.room, passL, PassesOwn.never, fun x h => ?_⟩
  · show relS scope X.env.scope = _
    rw [C.scp]
  · refine ⟨relS_loc h, ?_⟩
    rcases h with h | h
    · exact .inr (lookup_relS_keep (by decide) h)
    · refine .inl ?_
      show (scope.names.lookup x == some .cell) = true
      rw [h] <;> rfl
theorem fre_blk {scope : Scope} (Z : Fre X.mg) (s : Shared) (H' : Hp) (Cc : Addr) (cl : List (Str × Addr)) (fp : List Addr) : Fre (bx X scope s H' Cc cl fp).mg := Z
/-- tests of a clause -/
def WTs (X : Cx) (E : XK) (B : Bs) (Γ : List Slot) (ifs : List Expr) (m : Out Bool) : Prop :=
  ∀ σ F H ω Q, EnvOk X.K B Γ σ F H ω → Post m (fun b => ∀ F' H', Stp F H F' H' → Q b H') (RB X.K B E) → sTs X ifs σ H Q
theorem wts_nil : WTs X E B Γ [] (pure true) := fun σ F H ω Q en p => ⟨_, pts_nil, p F H (Stp.refl en.fh)⟩
theorem wts_one {c : Expr} {m : Out Bool} (h : WT X E B Γ c m) : WTs X E B Γ [c] m := fun σ F H ω Q en p => ⟨_, pts_one pt_s, h σ F H ω Q en p⟩

/-! ### the block's slots -/
def wipeS (Γ : List Slot) : List Nat → List Slot
  | [] => Γ
  | v :: vs => (wipeS Γ vs).set v .any
theorem wipeS_at {Γ : List Slot} : ∀ {vs : List Nat} {j : Nat} {s : Slot}, (wipeS Γ vs)[j]? = some s → s = .any ∨ (Γ[j]? = some s ∧ j ∉ vs)
  | [], j, s, h => .inr ⟨h, by simp⟩
  | v :: vs, j, s, h => by
    unfold wipeS at h
    by_cases c : v = j
    · subst c
      by_cases hv : v < (wipeS Γ vs).length
      · rw [List.getElem?_set_self hv] at h
        exact .inl (Option.some.inj h).symm
      · rw [List.getElem?_eq_none (by simpa using hv)] at h
        cases h
    · rw [List.getElem?_set_ne c] at h
      rcases wipeS_at h with q | ⟨q1, q2⟩
      · exact .inl q
      · exact .inr ⟨q1, by simp only [List.mem_cons, not_or]; exact ⟨fun z => c z.symm, q2⟩⟩
theorem wipeS_len {Γ : List Slot} : ∀ vs : List Nat, (wipeS Γ vs).length = Γ.length
  | [] => rfl
  | v :: vs => by unfold wipeS; rw [List.length_set, wipeS_len vs]
theorem env_wipe {K : PySem.W.Frag} {Γ : List Slot} {σ : L2.St} {F H : Hp} {ω : Ow} (e : EnvOk K B Γ σ F H ω) (vs : List Nat) : EnvOk K B (wipeS Γ vs) (wipe σ vs) F H ω :=
  ⟨e.base, by rw [wipe_length, wipeS_len, e.len], e.own, fun j s h => by
    rcases wipeS_at h with q | ⟨q1, q2⟩
    · rw [q]; trivial
    · rw [wipe_out q2]
      exact e.slot j s q1⟩
theorem wipe_in {σ : L2.St} {i : Nat} : ∀ {vs : List Nat}, i ∈ vs → i < σ.length → (wipe σ vs)[i]? = some none
  | [], h, _ => by simp at h
  | v :: vs, h, hi => by
    unfold wipe
    by_cases c : v = i
    · subst c
      rw [List.getElem?_set_self (by rw [wipe_length]; exact hi)]
    · rw [List.getElem?_set_ne c]
      exact wipe_in ((List.mem_cons.mp h).resolve_left fun z => c z.symm) hi
theorem wipe_eq {σ τ : L2.St} {vs ix : List Nat} (h : ∀ j, j ∉ ix → σ[j]? = τ[j]?) (hl : σ.length = τ.length) (hs : ∀ j ∈ ix, j ∈ vs) : wipe σ vs = wipe τ vs := by
  refine List.ext_getElem? fun j => ?_
  by_cases c : j ∈ vs
  · by_cases hj : j < σ.length
    · rw [wipe_in c hj, wipe_in c (by rw [← hl]; exact hj)]
    · rw [List.getElem?_eq_none (by rw [wipe_length]; omega), List.getElem?_eq_none (by rw [wipe_length]; omega)]
  · rw [wipe_out c, wipe_out c]
    exact h j fun z => c (hs j z)
theorem wipe_wipe (σ : L2.St) (vs : List Nat) : wipe (wipe σ vs) vs = wipe σ vs := by
  refine List.ext_getElem? fun j => ?_
  by_cases c : j ∈ vs
  · by_cases hj : j < σ.length
    · rw [wipe_in c (by rw [wipe_length]; exact hj), wipe_in c hj]
    · rw [List.getElem?_eq_none (by rw [wipe_length, wipe_length]; omega), List.getElem?_eq_none (by rw [wipe_length]; omega)]
  · rw [wipe_out c]

/-! ### what a comprehension makes -/
def compO {α β : Type} (f : α → Out (Option β)) : List α → Out (List β)
  | [] => pure []
  | x :: xs => match f x with
    | .ok none => compO f xs
    | .ok (some b) => (match compO f xs with
      | .ok bs => .ok (b :: bs)
      | _ => .stuck)
    | _ => .stuck
def mapO {α β : Type} (f : α → Out β) : List α → Out (List β)
  | [] => pure []
  | x :: xs => match f x with
    | .ok b => (match mapO f xs with
      | .ok bs => .ok (b :: bs)
      | _ => .stuck)
    | _ => .stuck
theorem comp_map {α β : Type} (f : α → Out β) : ∀ xs : List α, compO (fun x => f x >>= fun b => pure (some b)) xs = mapO f xs
  | [] => rfl
  | x :: xs => by
    unfold compO mapO
    rw [comp_map f xs]
    cases f x <;> rfl
theorem Stp.updN {F H F' H' : Hp} {D : Addr} {o : HO} (s : Stp F H F' H') (h1 : H D = none) (h2 : F' D = none) : Stp F H F' (upd H' D o) :=
  ⟨s.ff, fun a u e => by
    rw [upd_ne (fun z => by rw [z, h2] at e; cases e)]
    exact s.fh a u e, fun a u e => by
    rw [upd_ne (fun z => by rw [z, h1] at e; cases e)]
    exact s.hh a u e, s.old⟩
/-- the tests and the element, an Option -/
def ifO {β : Type} (c : Out Bool) (m : Out β) : Out (Option β) := c >>= fun t => if t = true then m >>= fun b => pure (some b) else pure none
theorem ifO_none {β : Type} {c : Out Bool} {m : Out β} (h : ifO c m = .ok none) : c = .ok false := by
  unfold ifO at h
  cases c with
  | ok t =>
    cases t with
    | false => rfl
    | true =>
      cases m <;> cases h
  | err x => cases h
  | stuck => cases h
theorem ifO_some {β : Type} {c : Out Bool} {m : Out β} {b : β} (h : ifO c m = .ok (some b)) : c = .ok true ∧ m = .ok b := by
  unfold ifO at h
  cases c with
  | ok t =>
    cases t with
    | false => cases h
    | true =>
      cases m with
      | ok a => cases h; exact ⟨rfl, rfl⟩
      | err x => cases h
      | stuck => cases h
  | err x => cases h
  | stuck => cases h
section
variable {tg iter elt : Expr} {ifs : List Expr} {scope : Scope} {own : List (Str × Nat)} {pos p : Pos} {α β : Type} {T : Ty α} {U : Ty β} {mi : Out (List α)} {ix : List Nat} {g : α → List Slot → List Slot} {mc : α → Out Bool} {m : α → Out β}
/-- the reading of a comprehension -/
theorem lc_read (C : XC X N sc k E) (hit : WI X E B Γ tg iter T mi) (hix : ∀ j ∈ ix, j ∈ own.map (·.2)) (hg : ∀ s H' Cc cl fp, WG (bx X scope s H' Cc cl fp) B tg T ix g)
    (hc : ∀ s H' Cc cl fp a, WTs (bx X scope s H' Cc cl fp) E0 B (g a (wipeS Γ (own.map (·.2)))) ifs (mc a)) (he : ∀ s H' Cc cl fp a, WE (bx X scope s H' Cc cl fp) E0 B (g a (wipeS Γ (own.map (·.2)))) elt U.rl (m a))
    {σ : L2.St} {F H : Hp} {ω : Ow} {Q : VK} (en : EnvOk X.K B Γ σ F H ω) (po : Post (mi >>= compO fun a => ifO (mc a) (m a)) (fun bs => ∀ v F' H' S, Stp F H F' H' → (∀ p, S p → F' p = none ∧ H' p ≠ none ∧ H p = none) → (oLst U).rel X.K F' H' S v bs → Q v H') (RB X.K B E)) :
    tLc (sI X tg iter) (uG X scope tg) (uT X scope ifs) (uE X scope elt) (own.map (·.2)) σ H Q := by
  refine hit σ F H ω _ en (po.bind.imp fun xs q J F1 H1 s1 tw hl D hD => ?_)
  have hD0 : H D = none := s1.hh.free hD
  have hF1 : F1 D = none := s1.fh.free hD
  obtain ⟨bs, hb, q⟩ : ∃ bs, compO (fun a => ifO (mc a) (m a)) xs = .ok bs ∧ ∀ v F' H' S, Stp F H F' H' → (∀ p, S p → F' p = none ∧ H' p ≠ none ∧ H p = none) → (oLst U).rel X.K F' H' S v bs → Q v H' := by
    cases e : compO (fun a => ifO (mc a) (m a)) xs with
    | ok bs => rw [e] at q; exact ⟨bs, rfl, q⟩
    | err x =>
      exfalso
      have : ∀ ys : List α, compO (fun a => ifO (mc a) (m a)) ys ≠ .err x := by
        intro ys
        induction ys with
        | nil => intro z; cases z
        | cons y ys ih =>
          intro z
          unfold compO at z
          split at z
          · exact ih z
          · split at z <;> cases z
          · cases z
      exact this xs e
    | stuck => rw [e] at q; exact q.elim
  have enw := env_wipe (en.stp s1) (own.map (·.2))
  refine ⟨fun i mm H' => mm = xs.length - i ∧ i ≤ xs.length ∧ ∃ F' vs acc rest, Stp F1 H1 F' H' ∧ F' D = none ∧ H' D = some (.lst vs) ∧ Fa2 (U.rel X.K F') vs acc ∧ acc.length ≤ i ∧ compO (fun a => ifO (mc a) (m a)) (xs.drop i) = .ok rest ∧ bs = acc ++ rest,
    ⟨xs.length, by simp, Nat.zero_le _, F1, [], [], bs, Stp.newH s1.fh hD, hF1, upd_same, .nil, Nat.le_refl _, by rw [List.drop_zero]; exact hb, rfl⟩, ?_⟩
  rintro i mm H' ⟨rfl, hi, F', vs, acc, rest, s', hF', hH', ra, hacc, hr, ebs⟩
  by_cases hlt : i < xs.length
  · refine .inr ⟨tw.goes i F' H' hlt s'.ff s'.fh, _, fun H2 h => h, fun x H2 y => ?_⟩
    obtain ⟨F2, a, s2, ea, rx⟩ := tw.yields i F' H' x H2 hlt s'.ff s'.fh y
    have ed : xs.drop i = a :: xs.drop (i + 1) := by
      rw [List.getElem?_eq_getElem hlt] at ea
      rw [List.drop_eq_getElem_cons hlt, Option.some.inj ea]
    rw [ed] at hr
    have s3 := s'.trans s2
    have hF2 : F2 D = none := s2.old D hF' (by rw [hH']; exact fun z => nomatch z)
    have hH2 : H2 D = some (.lst vs) := s2.hh _ _ hH'
    intro sb Hb Cb clb fpb
    refine hg sb Hb Cb clb fpb _ F2 H2 ω _ x a _ (enw.stp s3) rx fun σ2 ω2 k2 l2 _ en2 => ?_
    refine ⟨(wipe_eq k2 l2 hix).trans (wipe_wipe _ _), ?_⟩
    intro sc2 Hc2 Cc2 clc2 fpc2
    -- what the item gives
    have hcase : (ifO (mc a) (m a) = .ok none ∧ compO (fun a => ifO (mc a) (m a)) (xs.drop (i + 1)) = .ok rest) ∨ ∃ b r2, ifO (mc a) (m a) = .ok (some b) ∧ compO (fun a => ifO (mc a) (m a)) (xs.drop (i + 1)) = .ok r2 ∧ rest = b :: r2 := by
      unfold compO at hr
      cases e : ifO (mc a) (m a) with
      | ok o =>
        rw [e] at hr
        cases o with
        | none => exact .inl ⟨rfl, hr⟩
        | some b =>
          cases e2 : compO (fun a => ifO (mc a) (m a)) (xs.drop (i + 1)) with
          | ok r2 =>
            simp only [e2] at hr
            cases hr
            exact .inr ⟨b, r2, rfl, rfl, rfl⟩
          | err x => simp only [e2] at hr; cases hr
          | stuck => simp only [e2] at hr; cases hr
      | err x => rw [e] at hr; cases hr
      | stuck => rw [e] at hr; cases hr
    rcases hcase with ⟨e1, e2⟩ | ⟨b, r2, e1, e2, e3⟩
    · have hm := ifO_none e1
      refine hc sc2 Hc2 Cc2 clc2 fpc2 a σ2 F2 H2 ω2 _ en2 ?_
      rw [hm]
      intro F3 H3 s4
      show if false = true then _ else _
      rw [if_neg Bool.false_ne_true]
      exact ⟨xs.length - (i + 1), by omega, rfl, hlt, F3, vs, acc, rest, s3.trans s4, s4.old D hF2 (by rw [hH2]; exact fun z => nomatch z), s4.hh _ _ hH2, ra.imp fun _ _ => U.mono (s2.trans s4).ff, by omega, e2, ebs⟩
    · obtain ⟨hm, hv⟩ := ifO_some e1
      refine hc sc2 Hc2 Cc2 clc2 fpc2 a σ2 F2 H2 ω2 _ en2 ?_
      rw [hm]
      intro F3 H3 s4
      show if true = true then _ else _
      rw [if_pos rfl]
      intro se He Ce cle fpe
      refine he se He Ce cle fpe a σ2 F3 H3 ω2 _ (en2.stp s4) ?_
      rw [hv]
      intro v F4 H4 s5 rv
      have s6 := (s3.trans s4).trans s5
      have hF4 : F4 D = none := (s4.trans s5).old D hF2 (by rw [hH2]; exact fun z => nomatch z)
      have hH4 : H4 D = some (.lst vs) := (s4.trans s5).hh _ _ hH2
      refine ⟨vs, hH4, by rw [ra.len]; omega, ?_⟩
      exact ⟨xs.length - (i + 1), by omega, rfl, hlt, F4, vs ++ [v], acc ++ [b], r2, s6.updN hD hF4, hF4, upd_same, (ra.imp fun _ _ => U.mono ((s2.trans s4).trans s5).ff).app (.cons rv .nil), by rw [List.length_append, List.length_singleton]; omega, e2, by rw [ebs, e3, List.append_assoc] <;> rfl⟩
  · have e : i = xs.length := by omega
    subst e
    rw [List.drop_length] at hr
    have er : rest = [] := by cases hr; rfl
    subst er
    rw [List.append_nil] at ebs
    subst ebs
    refine .inl ⟨tw.stops F' H' s'.ff s'.fh, ?_⟩
    exact q (.ref D) F' H' (fun a => a = D) (s1.trans s') (fun a e => by
      subst e
      exact ⟨hF', (by rw [hH']; exact fun z => nomatch z), hD0⟩) ⟨D, vs, rfl, rfl, hH', ra⟩
theorem blk_ok (C : XC X N sc k E) (h : blkC N sc.sc scope own = true) : BlkOk X.N X.env.scope scope own := by
  rw [C.nm, C.scp]
  exact blkOk_by h
/-- [elt for tg in iter if c] -/
theorem wo_lcif (C : XC X N sc k E) (own : List (Str × Nat)) (hk : blkC N sc.sc scope own = true) (hit : WI X E B Γ tg iter T mi) (hix : ∀ j ∈ ix, j ∈ own.map (·.2)) (hg : ∀ s H' Cc cl fp, XC (bx X scope s H' Cc cl fp) N ⟨relS scope sc.sc, scope⟩ k E0 → WG (bx X scope s H' Cc cl fp) B tg T ix g)
    (hc : ∀ s H' Cc cl fp a, XC (bx X scope s H' Cc cl fp) N ⟨relS scope sc.sc, scope⟩ k E0 → WTs (bx X scope s H' Cc cl fp) E0 B (g a (wipeS Γ (own.map (·.2)))) ifs (mc a)) (he : ∀ s H' Cc cl fp a, XC (bx X scope s H' Cc cl fp) N ⟨relS scope sc.sc, scope⟩ k E0 → WE (bx X scope s H' Cc cl fp) E0 B (g a (wipeS Γ (own.map (·.2)))) elt U.rl (m a))
    (hs : ∀ x, foldedSetIterable iter X.env x = pure x := by intro _; rfl) : WO X E B Γ (.ListComp elt [⟨tg, iter, ifs, 0⟩] scope pos) (oLst U) (mi >>= compO fun a => ifO (mc a) (m a)) := fun σ F H ω Q en po =>
  ⟨_, pe_lc C.calm (by rw [C.nm]; exact C.nd) pi_s (blk_ok C hk) pg_u pts_u pe_u hs, lc_read C hit hix (fun s H' Cc cl fp => hg s H' Cc cl fp (xc_blk C s H' Cc cl fp)) (fun s H' Cc cl fp a => hc s H' Cc cl fp a (xc_blk C s H' Cc cl fp)) (fun s H' Cc cl fp a => he s H' Cc cl fp a (xc_blk C s H' Cc cl fp)) en po⟩
theorem ifO_true {β : Type} (m : Out β) : ifO (pure true) m = (m >>= fun b => pure (some b)) := rfl
/-- [elt for tg in iter] -/
theorem wo_lc (C : XC X N sc k E) (own : List (Str × Nat)) (hk : blkC N sc.sc scope own = true) (hit : WI X E B Γ tg iter T mi) (hix : ∀ j ∈ ix, j ∈ own.map (·.2)) (hg : ∀ s H' Cc cl fp, XC (bx X scope s H' Cc cl fp) N ⟨relS scope sc.sc, scope⟩ k E0 → WG (bx X scope s H' Cc cl fp) B tg T ix g)
    (he : ∀ s H' Cc cl fp a, XC (bx X scope s H' Cc cl fp) N ⟨relS scope sc.sc, scope⟩ k E0 → WE (bx X scope s H' Cc cl fp) E0 B (g a (wipeS Γ (own.map (·.2)))) elt U.rl (m a))
    (hs : ∀ x, foldedSetIterable iter X.env x = pure x := by intro _; rfl) : WO X E B Γ (.ListComp elt [⟨tg, iter, [], 0⟩] scope pos) (oLst U) (mi >>= fun xs => mapO m xs) := by
  have h := wo_lcif (pos := pos) (mc := fun _ => pure true) C own hk hit hix hg (fun _ _ _ _ _ _ _ => wts_nil) he hs
  have e : (fun xs : List α => mapO m xs) = compO fun a => ifO (pure true) (m a) := funext fun xs => (comp_map m xs).symm
  rw [e]
  exact h
/-- name = [..] on one line, the name a local -/
theorem ws_lcif {b : List Stmt} {bs : List (List Stmt)} {γ : Type} {D : γ → SOut} {f : List β → Out γ} {y : Str} {py spos : Pos} (C : XC X N sc k E) (i : Nat) (own : List (Str × Nat)) (hk : blkC N sc.sc scope own = true) (hit : WI X E B Γ tg iter T mi) (hix : ∀ j ∈ ix, j ∈ own.map (·.2)) (hg : ∀ s H' Cc cl fp, XC (bx X scope s H' Cc cl fp) N ⟨relS scope sc.sc, scope⟩ k E0 → WG (bx X scope s H' Cc cl fp) B tg T ix g)
    (hc : ∀ s H' Cc cl fp a, XC (bx X scope s H' Cc cl fp) N ⟨relS scope sc.sc, scope⟩ k E0 → WTs (bx X scope s H' Cc cl fp) E0 B (g a (wipeS Γ (own.map (·.2)))) ifs (mc a)) (he : ∀ s H' Cc cl fp a, XC (bx X scope s H' Cc cl fp) N ⟨relS scope sc.sc, scope⟩ k E0 → WE (bx X scope s H' Cc cl fp) E0 B (g a (wipeS Γ (own.map (·.2)))) elt U.rl (m a))
    (hr : ∀ a, WS X E B (Γ.set i (.on _ (oLst U) a)) (b :: bs) (f a) D) (hN : N[i]? = some y := by rfl) (hyl : sc.sc.names.lookup y = some .local := by rfl) (hkd : sc.sc.kind = .function := by rfl) (hln : (py.line == pos.line) = true := by rfl)
    (hna : (scope.names.any fun (n, k) => n == y && (k == .local || k == .cell)) = false := by decide +kernel) (hs : ∀ x, foldedSetIterable iter X.env x = pure x := by intro _; rfl) :
    WS X E B Γ ((.Assign [.Name y py] (.ListComp elt [⟨tg, iter, ifs, 0⟩] scope pos) spos :: b) :: bs) ((mi >>= compO fun a => ifO (mc a) (m a)) >>= f) D := fun σ F H ω En en q => by
  have hyl' : X.env.scope.names.lookup y = some .local := by rw [C.scp]; exact hyl
  refine sK_cons ⟨_, ps_setLc (i := i) C.calm (by rw [C.nm]; exact C.nd) (by rw [C.nm]; exact hN) hyl' (sw_true (by rw [C.scp]; exact hkd) hyl' hln hna) pi_s (blk_ok C hk) pg_u pts_u pe_u hs, ?_⟩
  refine lc_read C hit hix (fun s H' Cc cl fp => hg s H' Cc cl fp (xc_blk C s H' Cc cl fp)) (fun s H' Cc cl fp a => hc s H' Cc cl fp a (xc_blk C s H' Cc cl fp)) (fun s H' Cc cl fp a => he s H' Cc cl fp a (xc_blk C s H' Cc cl fp)) en (q.bind.imp fun a q v F1 H1 S s1 d r => ?_)
  obtain ⟨ω', en'⟩ := env_setO (i := i) (en.stp s1) (new_ok en s1 d) r
  exact hr a _ F1 H1 _ En en' (q.imp fun b z => EndOk.up z s1.ff)
theorem ws_lc {b : List Stmt} {bs : List (List Stmt)} {γ : Type} {D : γ → SOut} {f : List β → Out γ} {y : Str} {py spos : Pos} (C : XC X N sc k E) (i : Nat) (own : List (Str × Nat)) (hk : blkC N sc.sc scope own = true) (hit : WI X E B Γ tg iter T mi) (hix : ∀ j ∈ ix, j ∈ own.map (·.2)) (hg : ∀ s H' Cc cl fp, XC (bx X scope s H' Cc cl fp) N ⟨relS scope sc.sc, scope⟩ k E0 → WG (bx X scope s H' Cc cl fp) B tg T ix g)
    (he : ∀ s H' Cc cl fp a, XC (bx X scope s H' Cc cl fp) N ⟨relS scope sc.sc, scope⟩ k E0 → WE (bx X scope s H' Cc cl fp) E0 B (g a (wipeS Γ (own.map (·.2)))) elt U.rl (m a))
    (hr : ∀ a, WS X E B (Γ.set i (.on _ (oLst U) a)) (b :: bs) (f a) D) (hN : N[i]? = some y := by rfl) (hyl : sc.sc.names.lookup y = some .local := by rfl) (hkd : sc.sc.kind = .function := by rfl) (hln : (py.line == pos.line) = true := by rfl)
    (hna : (scope.names.any fun (n, k) => n == y && (k == .local || k == .cell)) = false := by decide +kernel) (hs : ∀ x, foldedSetIterable iter X.env x = pure x := by intro _; rfl) :
    WS X E B Γ ((.Assign [.Name y py] (.ListComp elt [⟨tg, iter, [], 0⟩] scope pos) spos :: b) :: bs) ((mi >>= fun xs => mapO m xs) >>= f) D := by
  have h := ws_lcif (pos := pos) (spos := spos) (py := py) (mc := fun _ => pure true) C i own hk hit hix hg (fun _ _ _ _ _ _ _ => wts_nil) he hr hN hyl hkd hln hna hs
  have e : (fun xs : List α => mapO m xs) = compO fun a => ifO (pure true) (m a) := funext fun xs => (comp_map m xs).symm
  rw [e]
  exact h
end
end SL
namespace SL
open PySem PySem.Spec PyProof.Rows L2
variable {X : Cx} {N : List Str} {sc : Scp} {k : Nat} {E : XK} {B : Bs} {Γ : List Slot}
/-! ### other words for the same outcome -/
theorem WO.cast {e : Expr} {α : Type} {O : Own α} {m m' : Out α} (h : WO X E B Γ e O m) (q : m = m') : WO X E B Γ e O m' := q ▸ h
theorem WT.cast {e : Expr} {m m' : Out Bool} (h : WT X E B Γ e m) (q : m = m') : WT X E B Γ e m' := q ▸ h
theorem WTs.cast {e : List Expr} {m m' : Out Bool} (h : WTs X E B Γ e m) (q : m = m') : WTs X E B Γ e m' := q ▸ h
theorem WI.cast {tg e : Expr} {α : Type} {T : Ty α} {m m' : Out (List α)} (h : WI X E B Γ tg e T m) (q : m = m') : WI X E B Γ tg e T m' := q ▸ h
theorem ws_ret0 {β : Type} {D : β → SOut} {b : List Stmt} {bs : List (List Stmt)} {e : Expr} {T : Ty β} {me : Out β} {pos : Pos} (h : WE X E B Γ e T.rl me) (hD : ∀ a, D a = .rt β T a) : WS X E B Γ ((.Return (some e) pos :: b) :: bs) me D := by
  have q : (me >>= fun a => pure a) = me := by cases me <;> rfl
  have := ws_ret (b := b) (bs := bs) (pos := pos) (g := fun a => a) h hD
  rw [q] at this
  exact this
theorem ws_retO0 {β : Type} {D : β → SOut} {b : List Stmt} {bs : List (List Stmt)} {e : Expr} {O : Own β} {me : Out β} {pos : Pos} (h : WO X E B Γ e O me) (hD : ∀ a, D a = .ro β O a) : WS X E B Γ ((.Return (some e) pos :: b) :: bs) me D := by
  have q : (me >>= fun a => pure a) = me := by cases me <;> rfl
  have := ws_retO (b := b) (bs := bs) (pos := pos) (g := fun a => a) h hD
  rw [q] at this
  exact this
end SL

set_option Elab.async false
set_option linter.all false
set_option maxRecDepth 100000
set_option maxHeartbeats 2000000
/-! SLh: further rules. -/
namespace SL
open PySem PySem.Spec PyProof.Rows L2
variable {X : Cx} {N : List Str} {sc : Scp} {k : Nat} {E : XK} {B : Bs} {Γ : List Slot}
/-- the end of a block behind which nothing lies -/
theorem ws_fin {β : Type} {D : β → SOut} {b : β} {Δ : List Slot} (hD : D b = .nx Δ) (w : Weak Γ Δ) : WS X E B Γ [[]] (pure b) D := ws_pop (ws_end hD w)
instance (i j : Int) : Decidable (CMulW i j) := inferInstanceAs (Decidable (_ < _))
/-- written products beyond 64 bits -/
theorem we_mulW {e1 e2 : Expr} {a b : Int} {pos : Pos} (n : Int) (h1 : WE X E B Γ e1 tInt.rl (pure a)) (h2 : WE X E B Γ e2 tInt.rl (pure b)) (h : (decide (CMulW a b) && decide (a * b = n)) = true := by decide +kernel) : WE X E B Γ (.BinOp e1 .Mult e2 pos) tInt.rl (pure n) := by
  have q := we_op (pos := pos) op_mulW v_I h1 h2
  rw [Bool.and_eq_true, decide_eq_true_eq, decide_eq_true_eq] at h
  have e : ((pure a : Out Int) >>= fun a => (pure b : Out Int) >>= fun b => if CMulW a b then pure (a * b) else .stuck) = pure n := by
    show (if CMulW a b then (pure (a * b) : Out Int) else .stuck) = pure n
    rw [if_pos h.1, h.2]
  rw [e] at q
  exact q
/-- a number of the module -/
theorem we_gint (C : XC X N sc k E) {x : Str} {n : Int} {pos : Pos} (h : ∃ t, X.mg x = some (.int n t)) (hg : GlN sc x := by rfl) (hdb : (x == ("__debug__" : Str)) = false := by decide) : WE X E B Γ (.Name x pos) tInt.rl (pure n) := fun σ F H ω Q en p => by
  obtain ⟨t, h⟩ := h
  exact ⟨_, pe_glob (v := .int n) (gl_ C hg) h ⟨t, rfl⟩ hdb, p _ F H (Stp.refl en.fh) rfl⟩
/-- a comprehension put under a name that is a cell, or one of the block's own -/
theorem sw_no (C : XC X N sc k E) {elt : Expr} {gs : List Comprehension} {scope : Scope} {pos py : Pos} {y : Str} {l : Nat} (h : sc.sc.names.lookup y = some .cell ∨ (scope.names.any fun (n, k) => n == y && (k == .local || k == .cell)) = true) :
    swapsWith (.ListComp elt gs scope pos) (some (.Name y py)) l X.env = pure false := by
  unfold swapsWith
  rcases h with h | h
  · have ky : X.env.kindOf y = some .cell := by
      unfold Env.kindOf
      rw [C.scp]
      exact h
    have z : (NameKind.cell == NameKind.local) = false := rfl
    simp [ky, z]
  · simp [h]
end SL

set_option Elab.async false
set_option linter.all false
set_option maxRecDepth 100000
set_option maxHeartbeats 2000000
/-! SLi: enumerate over tuples; sets of ints. -/
namespace SL
open PySem PySem.Spec PyProof.Rows L2
/-! ### enumerate(t), t a tuple -/
def IteT (K : PySem.W.Frag) (a : Addr) : It :=
  ⟨fun i H => ∃ (xs : List V) (x : V), SqT K H a xs ∧ xs[i]? = some x, fun i H v H' => ∃ T x, v = .ref T ∧ H T = none ∧ H' = upd H T (.tup [.int (i : Nat), x]) ∧ ∀ xs, SqT K H a xs → xs[i]? = some x, fun i H => ∃ xs : List V, SqT K H a xs ∧ xs.length ≤ i⟩
theorem turn_enumT {P : Program} {w : World} {K : PySem.W.Frag} {elts : List Expr} {kk : Nat} {tpos : Pos} (a e it : Addr) (hei : e ≠ it) (hai : a ≠ it) (hae : e ≠ a) :
    Turn P w K (.Tuple elts kk tpos) (IteT K a) [e, it] e (fun i h => (∃ old, IsEnum h e it ((i : Nat) : Int) old) ∧ h.IsTupleIter it a i) where
  mem := by simp
  obj := fun i h ⟨⟨old, he⟩, ⟨o, ho, hc, hd⟩⟩ b hb => by
    rcases (show b = e ∨ b = it by simpa using hb) with z | z
    · rw [z]; exact ⟨_, he, fun v q => nomatch q⟩
    · rw [z]; exact ⟨o, ho, fun v q => by rw [hd] at q; cases q⟩
  keep := fun i h h' ⟨⟨old, he⟩, hi⟩ k => ⟨⟨old, k e (by simp) _ he⟩, hi.at fun o q => k it (by simp) o q⟩
  item := by
    intro X hP hw hK hc i pins s σ H E I hf ⟨⟨old, he⟩, hit⟩ ⟨xs, x, hq, hx⟩
    subst hP hw hK
    obtain ⟨its, rv, p, hz⟩ := I.tuple hq
    obtain ⟨u, hu, ru⟩ := rv.get hx
    have hsz : i < its.toArray.size := by
      have := (List.getElem?_eq_some_iff.mp hu).1
      simpa using this
    have hel : e < s.heap.objs.size := Heap.lt_size he
    have hil : it < s.heap.objs.size := by obtain ⟨_, q, _⟩ := hit; exact Heap.lt_size q
    refine wpAny_pyNext_enum_itemD (Draws.tuple (A := X.A.in1) (show X.A.in1.handled = none from I.ok.hd hc) it a hai its.toArray) he ⟨hit, p⟩ hsz hei (by simp [hei, hae]) fun y h' tk hy ho st' hT hz2 hk => ?_
    have ey : y = u := by
      have hy' : its.toArray[i]? = some y := hy
      rw [List.getElem?_toArray, hu] at hy'
      exact (Option.some.inj hy').symm
    subst ey
    refine ⟨_, rfl, wpAny_letOwnedTupleGo_enum (s := { s with heap := h', toks := tk + 1 }) ho fun h'' he' sb => ?_⟩
    have hT2 : h''.get? s.heap.objs.size = some { cls := .type "tuple", data := .seq #[.int i tk, y] } := (sb.2 _ (Nat.ne_of_gt hel)).trans hT
    have new : ObjOk X.prog X.w (upd H s.heap.objs.size (.tup [.int (i : Nat), x])) h'' s.heap.objs.size (.tup [.int (i : Nat), x]) :=
      ⟨by show 2 ≤ sizeLine; decide, [.int i tk, y], .cons ⟨_, rfl⟩ (.cons ru .nil), ⟨_, hT2, rfl, _, rfl⟩⟩
    have I1 : Inv X pins σ (upd H s.heap.objs.size (.tup [.int (i : Nat), x])) { s with heap := h'', toks := tk + 1 } :=
      I.turnedNew (ch := [e, it]) (fun b ob hb q => (sb.2 b (fun z => hb (by simp [z]))).trans (hk b ob (fun z => hb (by simp [z])) (fun z => hb (by simp [z])) q)) hf (Nat.le_refl _) new
    refine ⟨.ref s.heap.objs.size, _, I1, rfl, ⟨_, x, rfl, I.hok.fresh (Nat.le_refl _), rfl, fun ys hy => by rw [I.tuple_inj hy hq]; exact hx⟩, ⟨⟨y, ?_⟩, st'.1.at fun o q => (sb.2 it (Ne.symm hei)).trans q⟩, fun b hb => ?_⟩
    · have e1 : ((i + 1 : Nat) : Int) = (i : Int) + 1 := by omega
      rw [e1]; exact he'
    · have hb' : b < s.heap.objs.size := by
        rcases (show b = e ∨ b = it by simpa using hb) with z | z
        · rw [z]; exact hel
        · rw [z]; exact hil
      rw [upd_ne (Nat.ne_of_lt hb')]
      exact (hf b hb).1
  done := by
    intro X hP hw hK hc i pins s σ H E I hf ⟨⟨old, he⟩, hit⟩ ⟨xs, hq, hx⟩
    subst hP hw hK
    obtain ⟨its, rv, p, hz⟩ := I.tuple hq
    obtain ⟨f0, f1, f2, f3, f4, f5⟩ := hf it (by simp)
    have hl := rv.length
    -- the walk stands at its end, or behind it
    have D2 : Draws X.prog X.w X.A.in1 it [it, a] i (fun i v => its.toArray[i]? = some v) (fun j h => j = i ∧ h.IsTupleIter it a i ∧ h.IsTuple a its.toArray) :=
      { live := fun _ _ st => let ⟨o, ho, _⟩ := st.2.1; ⟨o, ho⟩
        frame := fun _ _ _ st hk => ⟨st.1, st.2.1.at fun o e => hk it (by simp) o e, st.2.2.at fun o e => hk a (by simp) o e⟩
        item := fun j s Q E hj st hQ => absurd st.1 (Nat.ne_of_lt hj)
        done := fun s Q E st hE => wpAny_nextOf_tuple_end (I.ok.hd hc) st.2.1 st.2.2 (by simp; omega) hE }
    exact wpAny_pyNext_enum_endD D2 he ⟨rfl, hit, p⟩ fun h' eb => ⟨rfl, I.turned (t' := s.toks) (fun b o hb q => eb b o hb q) f0 f1 f3 f4 f5⟩
  self := fun A i s Q E ⟨⟨_, he⟩, _⟩ h => wpAny_pyIter_enum he h
theorem meets_enum1 {v : Value} {o : Obj} {H : Heap → Prop} (B : Begins v o H) :
    Meets (Builtin.«enumerate.__new__» ⟨[.type "enumerate", v], []⟩) (fun _ R s => H s.heap ∧
      R (.ok (.ret (.ref (s.heap.push o).objs.size))) { s with heap := (s.heap.push o).push { cls := .type "enumerate", data := .fields #[.none, .bool false, .ref s.heap.objs.size, rawInt 0, .none, .none] } }) :=
  .of_wp fun prog w A R s h => by
    obtain ⟨hp, g, d, tk, os⟩ := s; obtain ⟨h1, h⟩ := h
    have hsub := sub_enumerate
    have q1 : ∀ {A' : Around} {E : Value → Shared → Prop} {Q : Value → Shared → Prop}, Q (.ref hp.objs.size) ⟨hp.push o, g, d, tk, os⟩ → wpAny (model prog w) A' (pyIter v) Q E ⟨hp, g, d, tk, os⟩ :=
      fun q => B.iter prog w _ _ ⟨hp, g, d, tk, os⟩ _ h1 q
    wp_walk using q1
    refine wpAny_stack_any fun st => wpAny_pure ?_
    split
    · rename_i c _ _ _ _ _
      cases (c == Value.type "enumerate") <;> (wp_walk using q1; exact ⟨_, rfl, h⟩)
    · wp_walk using q1
      exact ⟨_, rfl, h⟩
theorem call_enum1 {prog : Program} {w : World} {A : Around} {E : Value → Shared → Prop} {s : Shared} {v : Value} {o : Obj} {H : Heap → Prop} {Q : Value → Shared → Prop} (B : Begins v o H) (h1 : H s.heap)
    (h : ∀ h', IsEnum h' (s.heap.objs.size + 1) s.heap.objs.size 0 .none → h'.get? s.heap.objs.size = some o → h'.objs.size = s.heap.objs.size + 2 →
      (∀ b o, s.heap.get? b = some o → h'.get? b = some o) → Q (.ref (s.heap.objs.size + 1)) { s with heap := h' }) :
    wpAny (model prog w) A (call (.type "enumerate") [v]) Q E s := by
  refine callType_new F.called_enumerate (by decide) (F.typeCall_enumerate_1 _) (F.newCall_enumerate_1 _) (fun obj => F.args_object_init_2 obj _) F.entry_enumerate_new (meets_enum1 B) ⟨h1, ?_⟩
  have hz : (s.heap.push o).objs.size = s.heap.objs.size + 1 := Heap.size_push ..
  show _ ∧ _
  rw [hz]
  have he : IsEnum ((s.heap.push o).push { cls := .type "enumerate", data := .fields #[.none, .bool false, .ref s.heap.objs.size, rawInt 0, .none, .none] }) (s.heap.objs.size + 1) s.heap.objs.size 0 .none := by
    have := Heap.get?_push_size (s.heap.push o) (o := { cls := .type "enumerate", data := .fields #[.none, .bool false, .ref s.heap.objs.size, rawInt 0, .none, .none] }) rfl
    rw [hz] at this; exact this
  exact ⟨⟨_, he, rfl⟩, h _ he (Heap.get?_push_of_some _ (Heap.get?_push_size _ B.free)) (by rw [Heap.size_push, hz]) fun b o x => Heap.get?_push_of_some _ (Heap.get?_push_of_some _ x)⟩
def iEnumT (K : PySem.W.Frag) (ta : TA) : TI := fun σ H R => ta σ H fun vs H1 => ∃ a xs, vs = [.ref a] ∧ SqT K H1 a xs ∧ R (IteT K a) H1
theorem pi_enumT {X : Cx} {e : Expr} {ta : TA} {p pos tpos : Pos} {elts : List Expr} {kk : Nat} (hg : Gl X "enumerate") (hm : X.mg "enumerate" = none) (ha : PA X [e] ta) (hs : starEach [e] X.env = [(false, eval e X.env)] := by rfl) :
    PI X (.Tuple elts kk tpos) (.Call (.Name "enumerate" p) [e] [] pos) (iEnumT X.K ta) := by
  refine ⟨fun pins s σ H R I h => ?_⟩
  refine Call_ (ld_blt I hg hm boot_enumerate (PyProof.Rows.callWith_type1 (thn (ha.run pos pins s σ H _ I h) fun us s1 ⟨vs, H1, I1, r1, a, xs, ex, hq, q⟩ => ?_) hs rfl))
  subst ex
  cases r1 with
  | cons r rr =>
    cases rr
    cases r
    obtain ⟨its, rv, p', hz⟩ := I1.tuple hq
    obtain ⟨oa, hoa, _⟩ := id p'
    have hal : a < s1.heap.objs.size := Heap.lt_size hoa
    refine call_enum1 (begins_tuple a its.toArray) p' fun h' he hit hsz hk => wpAny_pyIter_enum he ?_
    have I2 : Inv X pins σ H1 { s1 with heap := h' } := I1.kept (t' := s1.toks) hk
    have n1 : s1.heap.objs.size + 1 ≠ s1.heap.objs.size := Nat.succ_ne_self _
    refine ⟨s1.heap.objs.size + 1, [s1.heap.objs.size + 1, s1.heap.objs.size], _, _, H1, rfl, I2, turn_enumT a (s1.heap.objs.size + 1) s1.heap.objs.size n1 (Nat.ne_of_lt hal) (Nat.ne_of_gt (Nat.lt_succ_of_lt hal)), ⟨⟨.none, he⟩, ⟨_, hit, rfl, rfl⟩⟩, fun b hb => ?_, q⟩
    have hle : s1.heap.objs.size ≤ b := by
      rcases (show b = s1.heap.objs.size + 1 ∨ b = s1.heap.objs.size by simpa using hb) with z | z
      · rw [z]; exact Nat.le_add_right _ _
      · rw [z]; exact Nat.le_refl _
    exact I1.fpOk hle (I1.hok.fresh hle)
variable {X : Cx} {N : List Str} {sc : Scp} {k : Nat} {E : XK} {B : Bs} {Γ : List Slot}
/-! ### enumerate as a walk -/
def enumL {α : Type} (xs : List α) : List (Int × α) := (List.range xs.length).zip xs |>.map fun p => ((p.1 : Int), p.2)
theorem enumL_len {α : Type} (xs : List α) : (enumL xs).length = xs.length := by simp [enumL]
theorem enumL_get {α : Type} {xs : List α} {i : Nat} {a : α} (h : xs[i]? = some a) : (enumL xs)[i]? = some ((i : Int), a) := by
  have hi := (List.getElem?_eq_some_iff.mp h).1
  unfold enumL
  have z : ((List.range xs.length).zip xs)[i]? = some (i, a) := by
    rw [List.getElem?_zip_eq_some]
    exact ⟨List.getElem?_range hi, h⟩
  rw [List.getElem?_map, z]
  rfl
section
variable {elts : List Expr} {kk : Nat} {tpos : Pos} {e : Expr} {α : Type} {T : Ty α} {m : Out (List α)} {p pos : Pos}
theorem new_pair {K : PySem.W.Frag} {F H : Hp} {D : Addr} {v1 v2 : V} {α β : Type} {T : Ty α} {U : Ty β} {a : α} {b : β} (s : Same F H) (n : H D = none) (r1 : T.rel K F v1 a) (r2 : U.rel K F v2 b) :
    Stp F H (upd F D (.tup [v1, v2])) (upd H D (.tup [v1, v2])) ∧ (tT2 T U).rel K (upd F D (.tup [v1, v2])) (.ref D) (a, b) :=
  have q := Stp.new (o := .tup [v1, v2]) s n
  ⟨q, D, v1, v2, rfl, SqT.of upd_same, T.mono q.ff r1, U.mono q.ff r2⟩
theorem wi_enumT (C : XC X N sc k E) (Z : Fre X.mg) (h : WE X E B Γ e (tTup T).rl m) (hg : GlN sc "enumerate" := by rfl) (hs : starEach (e :: []) X.env = (false, eval e X.env) :: starEach [] X.env := by rfl) (hs2 : starEach [e] X.env = [(false, eval e X.env)] := by rfl) :
    WI X E B Γ (.Tuple elts kk tpos) (.Call (.Name "enumerate" p) [e] [] pos) (tT2 tInt T) (m >>= fun a => pure (enumL a)) := fun σ F H ω R en q => by
  refine ⟨_, pi_enumT (gl_ C hg) Z.enumerate (pa_cons (pe_lenQ pe_s) pa_nil hs) hs2, ?_⟩
  refine h σ F H ω _ en (q.bind.imp fun xs q v F1 H1 s1 ⟨a, vs, e, sq, r⟩ hl => ⟨a, vs, by rw [e], seqT s1.fh sq, q _ F1 H1 s1 ?_ ?_⟩)
  · refine ⟨fun i F H hi sf sh => ⟨vs, vs[i]'(by rw [r.len]; rw [enumL_len] at hi; exact hi), seqT sh (seqT sf sq), by simp⟩, fun F H sf sh => ⟨vs, seqT sh (seqT sf sq), by rw [r.len, enumL_len]; exact Nat.le_refl _⟩, fun i F H x H' hi sf sh y => ?_⟩
    obtain ⟨D, x1, rfl, hD, rfl, hx⟩ := y
    obtain ⟨b, hb, rb⟩ := r.getV (hx vs (seqT sh (seqT sf sq)))
    obtain ⟨s2, r2⟩ := new_pair (T := tInt) (U := T) (v1 := .int (i : Nat)) (a := ((i : Nat) : Int)) sh hD rfl (T.mono sf rb)
    exact ⟨_, _, s2, enumL_get hb, r2⟩
  · rw [enumL_len, ← r.len]
    exact sqT_len (seqT s1.fh sq) hl
/-- over a fixed list -/
theorem wi_enumL (C : XC X N sc k E) (Z : Fre X.mg) (h : WE X E B Γ e (tLst T).rl m) (hg : GlN sc "enumerate" := by rfl) (hs : starEach (e :: []) X.env = (false, eval e X.env) :: starEach [] X.env := by rfl) (hs2 : starEach [e] X.env = [(false, eval e X.env)] := by rfl) :
    WI X E B Γ (.Tuple elts kk tpos) (.Call (.Name "enumerate" p) [e] [] pos) (tT2 tInt T) (m >>= fun a => pure (enumL a)) := fun σ F H ω R en q => by
  refine ⟨_, pi_enum (gl_ C hg) Z.enumerate (pa_cons (pe_lenQ pe_s) pa_nil hs) hs2, ?_⟩
  refine h σ F H ω _ en (q.bind.imp fun xs q v F1 H1 s1 ⟨a, vs, e, sq, r⟩ hl => ⟨a, vs, by rw [e], SqL.of (s1.fh _ _ sq), q _ F1 H1 s1 ?_ ?_⟩)
  · refine ⟨fun i F H hi sf sh => ⟨vs, vs[i]'(by rw [r.len]; rw [enumL_len] at hi; exact hi), SqL.of (sh _ _ (sf _ _ sq)), by simp⟩, fun F H sf sh => ⟨vs, SqL.of (sh _ _ (sf _ _ sq)), by rw [r.len, enumL_len]; exact Nat.le_refl _⟩, fun i F H x H' hi sf sh y => ?_⟩
    obtain ⟨D, x1, rfl, hD, rfl, hx⟩ := y
    obtain ⟨b, hb, rb⟩ := r.getV (hx vs (SqL.of (sh _ _ (sf _ _ sq))))
    obtain ⟨s2, r2⟩ := new_pair (T := tInt) (U := T) (v1 := .int (i : Nat)) (a := ((i : Nat) : Int)) sh hD rfl (T.mono sf rb)
    exact ⟨_, _, s2, enumL_get hb, r2⟩
  · rw [enumL_len, ← r.len]
    exact hl a vs (.inl (.inl (s1.fh _ _ sq)))
end
end SL

set_option Elab.async false
set_option linter.all false
set_option maxRecDepth 100000
set_option maxHeartbeats 2000000
/-! SLj: sets of ints. -/
namespace SL
open PySem PySem.Spec PyProof.Rows L2
variable {X : Cx} {N : List Str} {sc : Scp} {k : Nat} {E : XK} {B : Bs} {Γ : List Slot}
/-- the members of the set at p: those of a -/
def SetAt (w : World) (H : Hp) (p : Addr) (a : List Int) : Prop := ∃ n, H p = some (SetO w p (fun k => decide (k ∈ a)) n) ∧ n ≤ a.length
def oSet (w : World) : Own (List Int) := ⟨fun K F H S v a => ∃ p, v = .ref p ∧ S p ∧ SetAt w H p a, fun ⟨p, e, sp, n, h, l⟩ s k => ⟨p, e, sp, n, (k p sp).trans h, l⟩⟩
def tSet (w : World) : Ty (List Int) := ⟨fun K F v a => ∃ p, v = .ref p ∧ SetAt w F p a, fun s ⟨p, e, n, h, l⟩ => ⟨p, e, n, s _ _ h, l⟩⟩
def rSet (w : World) : Rl (List Int) := ⟨fun K F H v a => ∃ p, v = .ref p ∧ SetAt w H p a, fun s ⟨p, e, n, h, l⟩ => ⟨p, e, n, s.hh _ _ h, l⟩⟩
theorem fz_set (w : World) : Fz (oSet w) (tSet w) := fun K F H S v a d ⟨p, e, sp, n, h, l⟩ => ⟨p, e, n, (frz_in sp).trans h, l⟩
theorem WE.rdS {w : World} {e : Expr} {m : Out (List Int)} (h : WE X E B Γ e (tSet w).rl m) : WE X E B Γ e (rSet w) m := fun σ F H ω Q en p =>
  h σ F H ω Q en (p.imp fun a q v F' H' s ⟨b, e, n, hb, l⟩ => q v F' H' s ⟨b, e, n, s.fh _ _ hb, l⟩)
theorem WO.rdS {w : World} {e : Expr} {m : Out (List Int)} (h : WO X E B Γ e (oSet w) m) : WE X E B Γ e (rSet w) m := fun σ F H ω Q en p =>
  h σ F H ω Q en (p.imp fun a q v F' H' S s d ⟨b, e, sb, r⟩ => q v F' H' s ⟨b, e, r⟩)
/-- the set of a slot -/
theorem we_sovar {w : World} (C : XC X N sc k E) (i : Nat) {x : Str} {pos : Pos} {a : List Int} (hΓ : Γ[i]? = some (.on _ (oSet w) a) := by rfl) (hN : N[i]? = some x := by rfl) (hv : Vis sc.sc x := by first | exact Or.inl rfl | exact Or.inr (Or.inl rfl) | exact Or.inr (Or.inr rfl))
    (hd : (x == ("__debug__" : Str)) = false := by decide) (hcd : (x == ("__classdict__" : Str)) = false := by decide) : WE X E B Γ (.Name x pos) (rSet w) (pure a) := fun σ F H ω Q en p => by
  obtain ⟨v, hs, b, e, sb, r⟩ := en.slot i _ hΓ
  exact ⟨_, pv_ C hN hv hd hcd, v, join_some hs, p v F H (Stp.refl en.fh) ⟨b, e, r⟩⟩
/-- set() -/
theorem wo_set0 (C : XC X N sc k E) (Z : Fre X.mg) {p pos : Pos} (hg : GlN sc "set" := by rfl) (hn : ("set" : Str) ≠ "__name__" := by decide) : WO X E B Γ (.Call (.Name "set" p) [] [] pos) (oSet X.w) (pure []) := fun σ F H ω Q en q =>
  ⟨_, pe_callTy0 cr_set0 (gl_ C hg) Z.set (by decide +kernel), rfl, fun p hp => q (.ref p) F _ (fun a => a = p) (Stp.newH en.fh hp) (fun a e => by
    subst e
    exact ⟨en.fh.free hp, (by rw [upd_same]; exact fun z => nomatch z), hp⟩) ⟨p, rfl, rfl, 0, by rw [upd_same] <;> simp, Nat.le_refl _⟩⟩
def addO (xs : List Int) (x : Int) : Out (List Int) := if xs.length < 4000 then pure (if x ∈ xs then xs else xs ++ [x]) else .stuck
/-- x.add(e) -/
theorem ws_add {β : Type} {D : β → SOut} {b : List Stmt} {bs : List (List Stmt)} {x : Str} {p p2 p3 pos : Pos} {e : Expr} {xs : List Int} {me : Out Int} {f : List Int → Out β} (C : XC X N sc k E) (i : Nat) (h : WE X E B Γ e tInt.rl me) (hr : ∀ a, WS X E B (Γ.set i (.on _ (oSet X.w) a)) (b :: bs) (f a) D)
    (hΓ : Γ[i]? = some (.on _ (oSet X.w) xs) := by rfl) (hN : N[i]? = some x := by rfl) (hv : Vis sc.sc x := by first | exact Or.inl rfl | exact Or.inr (Or.inl rfl) | exact Or.inr (Or.inr rfl))
    (hd : (x == ("__debug__" : Str)) = false := by decide) (hcd : (x == ("__classdict__" : Str)) = false := by decide) (hbase : attributeBase (.Name x p) "add" X.env (eval (.Name x p) X.env) = eval (.Name x p) X.env := by rfl)
    (hfew : ((backTo p3 (starEach (e :: []) X.env)).all (fun x => !x.1) && (backToKw p3 (keywordEach [] X.env)).all (fun x => x.1.isSome) && decide ((e :: []).length + ([] : List Keyword).length + (if ([] : List Keyword).isEmpty then 0 else 1) < 30)) = true := by rfl)
    (hline : (p2.endLine == p3.line) = true := by rfl) (hs : starEach (e :: []) X.env = (false, eval e X.env) :: starEach [] X.env := by rfl) (hpl : (backTo p3 (starEach ([] : List Expr) X.env)).any (·.1) = false := by rfl) (hsw : swapsWith (.Call (.Attribute (.Name x p) "add" p2) [e] [] p3) none pos.line X.env = pure false := by rfl) :
    WS X E B Γ ((.Expr (.Call (.Attribute (.Name x p) "add" p2) [e] [] p3) pos :: b) :: bs) (me >>= fun a => addO xs a >>= f) D := fun σ F H ω En en q => by
  refine sK_cons ⟨_, ps_expr (pe_sadd (pv_ C hN hv hd hcd) (pa_cons pe_s pa_nil hs) hbase hfew hline hs hpl) hsw, ?_⟩
  obtain ⟨v, hσ, l, rfl, hl, n, hH, hn⟩ := en.slot i _ hΓ
  have hσ := join_some hσ
  refine ⟨_, hσ, ⟨l, _, n, rfl, hH⟩, h σ F H ω _ en (q.bind.imp fun a q v F1 H1 s1 ra => ?_)⟩
  unfold addO at q
  by_cases c : xs.length < 4000
  · rw [if_pos c] at q
    have en1 := en.stp s1
    refine ⟨l, a, _, n, rfl, by rw [show v = .int a from ra], s1.hh _ _ hH, by rw [show scanBound = 4096 from rfl]; omega, ?_⟩
    refine hr _ σ F1 _ ω En (env_wr en1 hΓ hσ hl (a' := if a ∈ xs then xs else xs ++ [a]) ⟨l, rfl, hl, if decide (a ∈ xs) = true then n else n + 1, ?_, ?_⟩) (Post.imp q fun b z => EndOk.up z s1.ff)
    · rw [upd_same]
      congr 2
      funext j
      by_cases ca : a ∈ xs
      · by_cases cj : j = a
        · subst cj; simp [ca]
        · simp [ca, cj]
      · simp [ca]
    · by_cases ca : a ∈ xs
      · simp [ca]; exact hn
      · simp [ca]; exact hn
  · rw [if_neg c] at q
    exact q.elim
/-! in, not in -/
section
variable {e1 e2 : Expr} {m1 : Out Int} {m2 : Out (List Int)} {pos : Pos}
theorem v_inS {K : PySem.W.Frag} {w : World} : VOp K (rSIn w) tInt.rl (rSet w) tBool.rl (fun a as => pure (decide (a ∈ as))) := fun F H x y a b Q J s h1 ⟨p, e, n, hp, hn⟩ po => ⟨a, p, _, n, h1, e, hp, po _ F H (Stp.refl s) rfl⟩
theorem v_niS {K : PySem.W.Frag} {w : World} : VOp K (rSNotIn w) tInt.rl (rSet w) tBool.rl (fun a as => pure (!decide (a ∈ as))) := fun F H x y a b Q J s h1 ⟨p, e, n, hp, hn⟩ po => ⟨a, p, _, n, h1, e, hp, po _ F H (Stp.refl s) rfl⟩
theorem we_inS (h1 : WE X E B Γ e1 tInt.rl m1) (h2 : WE X E B Γ e2 (rSet X.w) m2) (hm : behindInMarks .In e2 = false := by with_unfolding_all rfl) : WE X E B Γ (.Compare e1 [.In] [e2] pos) tBool.rl (m1 >>= fun a => m2 >>= fun as => pure (decide (a ∈ as))) := we_cmp or_sin v_inS hm h1 h2
theorem wt_inS (h1 : WE X E B Γ e1 tInt.rl m1) (h2 : WE X E B Γ e2 (rSet X.w) m2) (hm : behindInMarks .In e2 = false := by with_unfolding_all rfl) : WT X E B Γ (.Compare e1 [.In] [e2] pos) (m1 >>= fun a => m2 >>= fun as => pure (decide (a ∈ as))) := wt_cmp or_sin v_inS hm h1 h2
theorem we_niS (h1 : WE X E B Γ e1 tInt.rl m1) (h2 : WE X E B Γ e2 (rSet X.w) m2) (hm : behindInMarks .NotIn e2 = false := by with_unfolding_all rfl) : WE X E B Γ (.Compare e1 [.NotIn] [e2] pos) tBool.rl (m1 >>= fun a => m2 >>= fun as => pure (!decide (a ∈ as))) := we_cmp or_snotin v_niS hm h1 h2
theorem wt_niS (h1 : WE X E B Γ e1 tInt.rl m1) (h2 : WE X E B Γ e2 (rSet X.w) m2) (hm : behindInMarks .NotIn e2 = false := by with_unfolding_all rfl) : WT X E B Γ (.Compare e1 [.NotIn] [e2] pos) (m1 >>= fun a => m2 >>= fun as => pure (!decide (a ∈ as))) := wt_cmp or_snotin v_niS hm h1 h2
end
end SL

set_option Elab.async false
set_option linter.all false
set_option maxRecDepth 100000
set_option maxHeartbeats 2000000
/-! SLk: sorted lists of tuples of ints, of any lengths. -/
namespace SL
open PySem PySem.Spec PyProof.Rows L2
/-! ### the order -/
def lexL : List Int → List Int → Bool
  | [], [] => false
  | [], _ :: _ => true
  | _ :: _, [] => false
  | x :: xs, y :: ys => if x = y then lexL xs ys else decide (x < y)
theorem lexL_irr : ∀ x : List Int, lexL x x = false
  | [] => rfl
  | x :: xs => by simp [lexL, lexL_irr xs]
theorem lexL_asym : ∀ {x y : List Int}, lexL x y = true → lexL y x = false
  | [], [], h => by simp [lexL] at h
  | [], _ :: _, _ => rfl
  | _ :: _, [], h => by simp [lexL] at h
  | x :: xs, y :: ys, h => by
    unfold lexL at h ⊢
    by_cases c : x = y
    · subst c
      rw [if_pos rfl] at h ⊢
      exact lexL_asym h
    · rw [if_neg c] at h
      rw [if_neg (Ne.symm c)]
      have := of_decide_eq_true h
      exact decide_eq_false (by omega)
theorem lexL_tr : ∀ {x y z : List Int}, lexL y x = false → lexL z y = false → lexL z x = false
  | [], [], [], _, _ => rfl
  | [], [], _ :: _, _, _ => rfl
  | [], _ :: _, [], h, h2 => by simp [lexL] at h2
  | [], _ :: _, _ :: _, _, _ => rfl
  | _ :: _, [], _, h, _ => by simp [lexL] at h
  | _ :: _, _ :: _, [], _, h => by simp [lexL] at h
  | x :: xs, y :: ys, z :: zs, h1, h2 => by
    unfold lexL at h1 h2 ⊢
    by_cases a : y = x
    · subst a
      rw [if_pos rfl] at h1
      by_cases b : z = y
      · subst b
        rw [if_pos rfl] at h2 ⊢
        exact lexL_tr h1 h2
      · rw [if_neg b] at h2 ⊢
        exact h2
    · rw [if_neg a] at h1
      have h1 := of_decide_eq_false h1
      by_cases b : z = y
      · subst b
        rw [if_neg a]
        exact decide_eq_false h1
      · rw [if_neg b] at h2
        have h2 := of_decide_eq_false h2
        rw [if_neg (by omega)]
        exact decide_eq_false (by omega)
theorem lexL_anti : ∀ {x y : List Int}, lexL x y = false → lexL y x = false → x = y
  | [], [], _, _ => rfl
  | [], _ :: _, h, _ => by simp [lexL] at h
  | _ :: _, [], _, h => by simp [lexL] at h
  | x :: xs, y :: ys, h1, h2 => by
    unfold lexL at h1 h2
    by_cases c : x = y
    · subst c
      rw [if_pos rfl] at h1 h2
      rw [lexL_anti h1 h2]
    · rw [if_neg c] at h1
      rw [if_neg (Ne.symm c)] at h2
      have h1 := of_decide_eq_false h1
      have h2 := of_decide_eq_false h2
      omega
theorem srt_uniq {α : Type} {le : α → α → Prop} (anti : ∀ a b, le a b → le b a → a = b) : ∀ {xs ys : List α}, xs.Perm ys → xs.Pairwise le → ys.Pairwise le → xs = ys
  | [], ys, p, _, _ => p.nil_eq
  | x :: xs, [], p, _, _ => absurd p.length_eq (by simp)
  | x :: xs, y :: ys, p, h1, h2 => by
    have hx : x ∈ y :: ys := p.mem_iff.mp (by simp)
    have hy : y ∈ x :: xs := p.mem_iff.mpr (by simp)
    have e : x = y := by
      rcases List.mem_cons.mp hx with h | h
      · exact h
      · rcases List.mem_cons.mp hy with g | g
        · exact g.symm
        · exact anti _ _ ((List.pairwise_cons.mp h1).1 y g) ((List.pairwise_cons.mp h2).1 x h)
    subst e
    rw [srt_uniq anti (List.Perm.cons_inv p) (List.pairwise_cons.mp h1).2 (List.pairwise_cons.mp h2).2]
def sortT (xs : List (List Int)) : List (List Int) := xs.mergeSort (fun a b => !lexL b a)
theorem sortT_perm (xs : List (List Int)) : (sortT xs).Perm xs := List.mergeSort_perm _ _
theorem sortT_sorted (xs : List (List Int)) : (sortT xs).Pairwise (fun a b => lexL b a = false) := by
  have h := List.pairwise_mergeSort (le := fun a b : List Int => !lexL b a) (fun a b c h1 h2 => by
    simp only [Bool.not_eq_true'] at *
    exact lexL_tr h1 h2) (fun a b => by
    cases c : lexL b a with
    | false => rfl
    | true => rw [lexL_asym c] <;> rfl) xs
  exact h.imp fun h => by simpa using h
theorem sortT_uniq {xs ys : List (List Int)} (p : ys.Perm xs) (h : ys.Pairwise (fun a b => lexL b a = false)) : ys = sortT xs :=
  srt_uniq (le := fun a b => lexL b a = false) (fun a b h1 h2 => lexL_anti h2 h1) (p.trans (sortT_perm xs).symm) h (sortT_sorted xs)
def sortTO (xs : List (List Int)) : Out (List (List Int)) := if ∀ x ∈ xs, x ≠ [] then pure (sortT xs) else .stuck

/-! ### the run -/
section
variable {prog : Program} {w : World} {A : Around} {E : Value → Shared → Prop} {s : Shared}
theorem lex_any {Q : Bool → Shared → Prop} {b : Bool} {us vs : List Value} {xs ys : List Int} (i : Nat) (hx : IntsAre us xs) (hy : IntsAre vs ys) (h : Q (lexL xs ys) s) : PySem.W.KatLex prog w A b (decide (xs.length < ys.length)) Q (us.zip vs) i s := by
  induction hx generalizing vs ys i with
  | nil =>
    cases hy with
    | nil => exact PySem.W.kat_nil h
    | cons q u hy => exact PySem.W.kat_nil (by simpa [lexL] using h)
  | @cons p t us xs hx ih =>
    cases hy with
    | nil => exact PySem.W.kat_nil (by simpa [lexL] using h)
    | @cons q u vs ys hy =>
      show PySem.W.KatLex prog w A b _ Q ((Value.int p t, Value.int q u) :: us.zip vs) i s
      refine PySem.W.kat_cons (wpAny_eqBool_int ?_)
      unfold lexL at h
      by_cases e : p = q
      · subst e
        rw [if_pos rfl] at h
        rw [beq_self_eq_true]
        have hl : decide ((p :: xs).length < (p :: ys).length) = decide (xs.length < ys.length) := by simp
        rw [hl]
        exact PySem.W.kat_yes (ih (i + 1) hy h)
      · rw [if_neg e] at h
        rw [show (p == q) = false from beq_eq_false_iff_ne.mpr e]
        exact PySem.W.kat_no (TS.oneLt_ints _ h)
theorem swo_lexL (k : Value → List Int) : SrtO.Swo fun v u => lexL (k v) (k u) := ⟨fun x y h => lexL_asym h, fun x y z h1 h2 => lexL_tr h1 h2⟩
theorem tup_cmp {vs : List Value} {k : Value → List Int} (hp : ∀ v ∈ vs, TS.TupInts s.heap v (k v)) : SrtO.Cmp prog w A s (tuples' true) (fun p => p.1 ∈ vs) (SrtO.lt2 fun v u => lexL (k v) (k u)) := by
  intro p q hm hm'
  have h1 := hp _ hm
  have h2 := hp _ hm'
  show wpAny (model prog w) A (keyLt' (tuples' true) p.1 q.1) (fun r s' => s' = s ∧ r = lexL (k p.1) (k q.1)) (fun _ _ => False) s
  generalize k p.1 = x at h1 ⊢
  generalize k q.1 = y at h2 ⊢
  obtain ⟨a, xs, e1, ⟨o, ho, hc, n, hdt⟩, i⟩ := h1
  obtain ⟨a', ys, e2, ⟨o', ho', hc', n', hdt'⟩, i'⟩ := h2
  rw [e1, e2]
  refine PySem.W.kat_lt ho hdt ho' hdt' ?_
  have l1 := i.length
  have l2 := i'.length
  rw [Array.length_toList] at l1 l2
  rw [l1, l2]
  exact lex_any 0 i i' ⟨rfl, rfl⟩
theorem firsts_any {h : Heap} {k : Value → List Int} : ∀ vs : List Value, (∀ v ∈ vs, TS.TupInts h v (k v) ∧ k v ≠ []) → ∃ fs, PySem.W.KatTups h vs fs ∧ fs.length = vs.length ∧ ∀ f, f ∈ fs → ∃ n t, f = Value.int n t
  | [], _ => ⟨[], PySem.W.KatTups.nil, rfl, fun f hf => by simp at hf⟩
  | v :: vs, x => by
    obtain ⟨fs, hk, hl, hi⟩ := firsts_any vs fun u hu => x u (List.mem_cons_of_mem _ hu)
    obtain ⟨⟨a, xs, e, ⟨o, ho, hc, n, hdt⟩, i⟩, hn⟩ := x v (List.mem_cons_self ..)
    cases q : xs.toList with
    | nil =>
      rw [q] at i
      have l := i.length
      rw [List.length_nil] at l
      exact absurd (List.length_eq_zero_iff.mp l.symm) hn
    | cons y ys =>
      obtain ⟨m, t, hy⟩ := i.all y (by rw [q]; exact List.mem_cons_self ..)
      rw [e]
      refine ⟨y :: fs, PySem.W.KatTups.cons ho hc hdt ?_ hk, by simp [hl], ?_⟩
      · have z := congrArg (fun l : List Value => l[0]?) q
        simpa using z
      · intro f hf
        rcases List.mem_cons.mp hf with rfl | hf
        · exact ⟨m, t, hy⟩
        · exact hi f hf
theorem sorted_any {l : Addr} {vs : List Value} {k : Value → List Int} {Q : Value → Shared → Prop} (hl : s.heap.IsList l vs.toArray) (hz : vs.length ≤ sizeLine) (hp : ∀ v ∈ vs, TS.TupInts s.heap v (k v) ∧ k v ≠ [])
    (h : ∀ out : List Value, SrtO.Srtd (fun v u => lexL (k v) (k u)) out → out.Perm vs → Q (.ref (s.heap.objs.size + 1)) { s with heap := sortedAll s.heap vs out.toArray }) :
    wpAny (model prog w) A (call (.builtin "sorted") [.ref l]) Q E s := by
  refine SrtO.sorted_ord (swo_lexL k) hl hz (fun h2 h₁ a ha kk h' keep => ?_) fun out hs hb => h out hs hb.perm
  have hp' : ∀ v ∈ vs, TS.TupInts h' v (k v) ∧ k v ≠ [] := fun v hm => ⟨(hp v hm).1.keeps fun b o e c => keep b o (fun z => (kk b o e).1 z) ((kk b o e).2), (hp v hm).2⟩
  obtain ⟨fs, h1, h2', h3⟩ := firsts_any vs hp'
  refine ⟨tuples' true, fun Q E hq => ?_, tup_cmp fun v hm => (hp' v hm).1⟩
  refine PySem.W.kat_kind (T := .type "int") h1 (by omega) (fun f hm => ?_) (by rfl) ?_
  · obtain ⟨x, t, rfl⟩ := h3 f hm
    exact PySem.W.Looks.now
  · have e : (Value.type "int" != Value.type "tuple") = true := by first | decide +kernel | rfl | decide
    rw [e]
    exact hq
end
section
variable {X : Cx}
def rSortTup (K : PySem.W.Frag) : List V → Hp → VK → Prop := fun vs H Q => ∃ (a : Addr) (xs : List V) (nss : List (List Int)) (R : V → List Int → Prop), vs = [V.ref a] ∧ SqL K H a xs ∧ (∀ v ns, R v ns → TupI K H v ns) ∧ Fa2 R xs nss ∧ (∀ ns ∈ nss, ns ≠ []) ∧
  ∀ (ys : List V) (p : Addr), Fa2 R ys (sortT nss) → H p = none → Q (.ref p) (upd H p (.lst ys))
theorem tups_vals {pins : List (Addr × Obj)} {σ : L2.St} {H : Hp} {s : Shared} (I : Inv X pins σ H s) {R : V → List Int → Prop} (hR : ∀ v ns, R v ns → TupI X.K H v ns) : ∀ {xs : List V} {its : List Value} {nss : List (List Int)}, Vals xs its → Fa2 R xs nss →
    (∀ u ∈ its, ∃ ns t, u = Value.ref t ∧ R (.ref t) ns ∧ ns ∈ nss ∧ TS.TupInts s.heap u ns) ∧ its.map (TS.intsOf s.heap) = nss
  | _, _, _, .nil, .nil => ⟨fun u hu => by simp at hu, rfl⟩
  | x :: xs, u0 :: its, ns :: nss, .cons rv t, .cons r f => by
    obtain ⟨h1, h2⟩ := tups_vals I hR t f
    obtain ⟨t', e, ht⟩ := hR _ _ r
    subst e
    have e2 : u0 = Value.ref t' := rv
    subst e2
    have hi := tupI_raw I ht
    refine ⟨fun u hu => ?_, by rw [List.map_cons, h2, hi.ints]⟩
    rcases List.mem_cons.mp hu with e | hu
    · subst e
      exact ⟨ns, t', rfl, r, by simp, hi⟩
    · obtain ⟨ns', t2, z1, z2, z3, z4⟩ := h1 u hu
      exact ⟨ns', t2, z1, z2, by simp [z3], z4⟩
theorem bkV_fa2 {R : V → List Int → Prop} {g : Value → List Int} : ∀ {us : List Value}, (∀ u ∈ us, R (bkV u) (g u)) → Fa2 R (us.map bkV) (us.map g)
  | [], _ => .nil
  | u :: us, h => .cons (h u List.mem_cons_self) (bkV_fa2 fun y hy => h y (List.mem_cons_of_mem _ hy))
theorem cr_sortTup : CallR X (.builtin "sorted") (rSortTup X.K) := by
  intro pins s σ H vs us Q I r h
  obtain ⟨a, xs, nss, R, rfl, hs, hR, hf, hne, q⟩ := h
  obtain ⟨its, rv, hl, hz⟩ := I.list hs
  rw [Vals.ref1 r]
  obtain ⟨hv, hm⟩ := tups_vals I hR rv hf
  refine sorted_any (k := TS.intsOf s.heap) hl.isList (by rw [← rv.length]; exact hz) (fun v hm => ?_) fun out h1 h2 => ?_
  · obtain ⟨ns, t, _, _, m, ht⟩ := hv v hm
    rw [ht.ints]
    exact ⟨ht, hne ns m⟩
  · obtain ⟨ep, he'⟩ := PyProof.Rows.sortedAll_at s.heap its out.toArray
    have h3 := fun u (hu : u ∈ out) => hv u (h2.mem_iff.mp hu)
    have hlen : (out.map bkV).length ≤ sizeLine := by
      rw [List.length_map, h2.length_eq, ← rv.length]
      exact hz
    have es : out.map (TS.intsOf s.heap) = sortT nss := by
      refine sortT_uniq ?_ ?_
      · rw [← hm]
        exact h2.map _
      · rw [List.pairwise_map]
        exact h1
    have hfa : Fa2 R (out.map bkV) (sortT nss) := by
      rw [← es]
      refine bkV_fa2 fun u hu => ?_
      obtain ⟨ns, t, e, ht, _, hr⟩ := h3 u hu
      rw [hr.ints, e]
      exact ht
    exact ⟨.ref _, upd H (s.heap.objs.size + 1) (.lst (out.map bkV)), I.laid (t' := s.toks) (fun _ _ => PyProof.Rows.sortedAll_old) (Nat.le_succ _) ⟨hlen, out, ep, bkV_vals (fun u hu => let ⟨_, t, e, _⟩ := h3 u hu; ⟨t, e⟩), he'⟩, rfl, q _ _ hfa (I.hok.fresh (Nat.le_succ _))⟩
end
variable {X : Cx} {N : List Str} {sc : Scp} {k : Nat} {E : XK} {B : Bs} {Γ : List Slot}
theorem tupI_of {K : PySem.W.Frag} {F H : Hp} {v : V} {ns : List Int} (s : Same F H) (h : (tTup tInt).rel K F v ns) : TupI K H v ns := by
  obtain ⟨p, vs, e, q, r⟩ := h
  have := fa2_int r
  subst this
  exact ⟨p, e, seqT s q⟩
/-- sorted(xs) of tuples of ints -/
theorem wo_sortTup (C : XC X N sc k E) (Z : Fre X.mg) {e : Expr} {m : Out (List (List Int))} {p pos : Pos} (h : WE X E B Γ e (rLst (tTup tInt)) m) (hg : GlN sc "sorted" := by rfl) (he : starEach (e :: []) X.env = (false, eval e X.env) :: starEach [] X.env := by rfl) :
    WO X E B Γ (.Call (.Name "sorted" p) [e] [] pos) (oLst (tTup tInt)) (m >>= sortTO) := by
  refine cbO (R := rLst (tTup tInt)) C cr_sortTup Z.sorted (by decide +kernel) (fun F H x a Q J s hx po => ?_) h hg (he := he)
  obtain ⟨p, vs, e, q, r⟩ := hx
  unfold sortTO at po
  by_cases c : ∀ x ∈ a, x ≠ []
  · rw [if_pos c] at po
    exact ⟨p, vs, a, (tTup tInt).rel X.K F, by rw [e], q, fun v ns h => tupI_of s h, r, c, fun ys d hy hd => new_lst s hd hy po⟩
  · rw [if_neg c] at po
    exact po.elim
end SL

set_option Elab.async false
set_option linter.all false
set_option maxRecDepth 100000
set_option maxHeartbeats 2000000
/-! SLl: == of whole data; isinstance; index, count. -/
namespace SL
open PySem PySem.Spec PyProof.Rows L2
variable {X : Cx} {N : List Str} {sc : Scp} {k : Nat} {E : XK} {B : Bs} {Γ : List Slot}
/-! ### data as PyData -/
structure Code (α : Type) [DecidableEq α] where
  d : α → PyData
  n : Nat
  lay : ∀ a, (d a).canLay0 = true
  dep : ∀ a, (d a).depth ≤ n
  eqv : ∀ a b, PyData.eqv (d a) (d b) = decide (a = b)
def cInt : Code Int := ⟨.int, 0, fun _ => by simp [PyData.canLay0], fun _ => by simp [PyData.depth], fun a b => by
  simp only [PyData.eqv]
  by_cases h : a = b <;> simp [h]⟩
def cBool : Code Bool := ⟨.bool, 0, fun _ => by simp [PyData.canLay0], fun _ => by simp [PyData.depth], fun a b => by
  simp only [PyData.eqv]
  by_cases h : a = b <;> simp [h]⟩
theorem lay_all {α : Type} [DecidableEq α] (c : Code α) : ∀ xs : List α, PyData.canLayAll0 (xs.map c.d) = true
  | [] => by simp [PyData.canLayAll0]
  | x :: xs => by simp [PyData.canLayAll0, c.lay x, lay_all c xs]
theorem dep_all {α : Type} [DecidableEq α] (c : Code α) : ∀ xs : List α, PyData.depthAll (xs.map c.d) ≤ c.n
  | [] => by simp [PyData.depthAll]
  | x :: xs => by
    have h1 := c.dep x
    have h2 := dep_all c xs
    simp only [List.map_cons, PyData.depthAll]
    omega
theorem eqv_all {α : Type} [DecidableEq α] (c : Code α) : ∀ xs ys : List α, PyData.eqvAll (xs.map c.d) (ys.map c.d) = decide (xs = ys)
  | [], [] => by simp [PyData.eqvAll]
  | [], _ :: _ => by simp [PyData.eqvAll]
  | _ :: _, [] => by simp [PyData.eqvAll]
  | x :: xs, y :: ys => by
    simp only [List.map_cons, PyData.eqvAll, c.eqv, eqv_all c xs ys, List.cons.injEq]
    by_cases h : x = y <;> simp [h]
def cLst {α : Type} [DecidableEq α] (c : Code α) : Code (List α) := ⟨fun xs => .list (xs.map c.d), c.n + 1, fun xs => by simp [PyData.canLay0, lay_all], fun xs => by
  have := dep_all c xs
  simp only [PyData.depth]
  omega, fun a b => by simp only [PyData.eqv, eqv_all]⟩
def cTup {α : Type} [DecidableEq α] (c : Code α) : Code (List α) := ⟨fun xs => .tuple (xs.map c.d), c.n + 1, fun xs => by simp [PyData.canLay0, lay_all], fun xs => by
  have := dep_all c xs
  simp only [PyData.depth]
  omega, fun a b => by simp only [PyData.eqv, eqv_all]⟩
def cT2 {α β : Type} [DecidableEq α] [DecidableEq β] (c : Code α) (e : Code β) : Code (α × β) := ⟨fun x => .tuple [c.d x.1, e.d x.2], max c.n e.n + 1, fun x => by simp [PyData.canLay0, PyData.canLayAll0, c.lay, e.lay], fun x => by
  have h1 := c.dep x.1
  have h2 := e.dep x.2
  simp only [PyData.depth, PyData.depthAll]
  omega, fun a b => by
  obtain ⟨a1, a2⟩ := a
  obtain ⟨b1, b2⟩ := b
  simp only [PyData.eqv, PyData.eqvAll, c.eqv, e.eqv, Prod.mk.injEq]
  by_cases h : a1 = b1 <;> simp [h]⟩
def cT3 {α β γ : Type} [DecidableEq α] [DecidableEq β] [DecidableEq γ] (c : Code α) (e : Code β) (f : Code γ) : Code (α × β × γ) := ⟨fun x => .tuple [c.d x.1, e.d x.2.1, f.d x.2.2], max (max c.n e.n) f.n + 1, fun x => by simp [PyData.canLay0, PyData.canLayAll0, c.lay, e.lay, f.lay], fun x => by
  have h1 := c.dep x.1
  have h2 := e.dep x.2.1
  have h3 := f.dep x.2.2
  simp only [PyData.depth, PyData.depthAll]
  omega, fun a b => by
  obtain ⟨a1, a2, a3⟩ := a
  obtain ⟨b1, b2, b3⟩ := b
  simp only [PyData.eqv, PyData.eqvAll, c.eqv, e.eqv, f.eqv, Prod.mk.injEq]
  by_cases h : a1 = b1 <;> by_cases h2 : a2 = b2 <;> simp [h, h2]⟩
def cL2 {α β : Type} [DecidableEq α] [DecidableEq β] (c : Code α) (e : Code β) : Code (α × β) := ⟨fun x => .list [c.d x.1, e.d x.2], max c.n e.n + 1, fun x => by simp [PyData.canLay0, PyData.canLayAll0, c.lay, e.lay], fun x => by
  have h1 := c.dep x.1
  have h2 := e.dep x.2
  simp only [PyData.depth, PyData.depthAll]
  omega, fun a b => by
  obtain ⟨a1, a2⟩ := a
  obtain ⟨b1, b2⟩ := b
  simp only [PyData.eqv, PyData.eqvAll, c.eqv, e.eqv, Prod.mk.injEq]
  by_cases h : a1 = b1 <;> simp [h]⟩
def cL3 {α β γ : Type} [DecidableEq α] [DecidableEq β] [DecidableEq γ] (c : Code α) (e : Code β) (f : Code γ) : Code (α × β × γ) := ⟨fun x => .list [c.d x.1, e.d x.2.1, f.d x.2.2], max (max c.n e.n) f.n + 1, fun x => by simp [PyData.canLay0, PyData.canLayAll0, c.lay, e.lay, f.lay], fun x => by
  have h1 := c.dep x.1
  have h2 := e.dep x.2.1
  have h3 := f.dep x.2.2
  simp only [PyData.depth, PyData.depthAll]
  omega, fun a b => by
  obtain ⟨a1, a2, a3⟩ := a
  obtain ⟨b1, b2, b3⟩ := b
  simp only [PyData.eqv, PyData.eqvAll, c.eqv, e.eqv, f.eqv, Prod.mk.injEq]
  by_cases h : a1 = b1 <;> by_cases h2 : a2 = b2 <;> simp [h, h2]⟩
/-- a type's data by a code -/
def DpT {α : Type} (T : Ty α) (d : α → PyData) : Prop := ∀ K F v a, T.rel K F v a → Dp K F v (d a)
theorem dp_int : DpT tInt cInt.d := fun K F v a h => by
  rw [show v = .int a from h]
  exact .int a
theorem dp_bool : DpT tBool cBool.d := fun K F v a h => by
  rw [show v = .bl a from h]
  exact .bl a
theorem dp_all {α : Type} {T : Ty α} {d : α → PyData} (h : DpT T d) {K : PySem.W.Frag} {F F' : Hp} (s : Same F F') {vs : List V} {as : List α} (r : Fa2 (T.rel K F) vs as) : DpAll K F' vs (as.map d) := by
  induction r with
  | nil => exact .nil
  | cons q _ ih => exact .cons (dp_mono s (h _ _ _ _ q)) ih
theorem dp_lst {α : Type} {T : Ty α} {d : α → PyData} (h : DpT T d) : DpT (tLst T) (fun xs => .list (xs.map d)) := fun K F v a ⟨p, vs, e, q, r⟩ => by
  rw [e]
  exact .lst (SqL.of q) (dp_all h (Same.refl F) r)
theorem dp_tup {α : Type} {T : Ty α} {d : α → PyData} (h : DpT T d) : DpT (tTup T) (fun xs => .tuple (xs.map d)) := fun K F v a ⟨p, vs, e, q, r⟩ => by
  rw [e]
  exact .tup q (dp_all h (Same.refl F) r)
section
variable {α β γ : Type} {T : Ty α} {U : Ty β} {W : Ty γ} {c : α → PyData} {d : β → PyData} {f : γ → PyData}
theorem dp_t2 (h1 : DpT T c) (h2 : DpT U d) : DpT (tT2 T U) (fun x => .tuple [c x.1, d x.2]) := fun K F v a ⟨p, v1, v2, e, q, r1, r2⟩ => by
  rw [e]
  exact .tup q (.cons (h1 _ _ _ _ r1) (.cons (h2 _ _ _ _ r2) .nil))
theorem dp_t3 (h1 : DpT T c) (h2 : DpT U d) (h3 : DpT W f) : DpT (tT3 T U W) (fun x => .tuple [c x.1, d x.2.1, f x.2.2]) := fun K F v a ⟨p, v1, v2, v3, e, q, r1, r2, r3⟩ => by
  rw [e]
  exact .tup q (.cons (h1 _ _ _ _ r1) (.cons (h2 _ _ _ _ r2) (.cons (h3 _ _ _ _ r3) .nil)))
theorem dp_l2 (h1 : DpT T c) (h2 : DpT U d) : DpT (tL2 T U) (fun x => .list [c x.1, d x.2]) := fun K F v a ⟨p, v1, v2, e, q, r1, r2⟩ => by
  rw [e]
  exact .lst (SqL.of q) (.cons (h1 _ _ _ _ r1) (.cons (h2 _ _ _ _ r2) .nil))
theorem dp_l3 (h1 : DpT T c) (h2 : DpT U d) (h3 : DpT W f) : DpT (tL3 T U W) (fun x => .list [c x.1, d x.2.1, f x.2.2]) := fun K F v a ⟨p, v1, v2, v3, e, q, r1, r2, r3⟩ => by
  rw [e]
  exact .lst (SqL.of q) (.cons (h1 _ _ _ _ r1) (.cons (h2 _ _ _ _ r2) (.cons (h3 _ _ _ _ r3) .nil)))
end
/-- .. by both heaps -/
def DpR {α : Type} (R : Rl α) (d : α → PyData) : Prop := ∀ K F H v a, Same F H → R.rel K F H v a → Dp K H v (d a)
theorem DpT.r {α : Type} {T : Ty α} {d : α → PyData} (h : DpT T d) : DpR T.rl d := fun K F H v a s r => dp_mono s (h _ _ _ _ r)
theorem dp_rl {α : Type} {T : Ty α} {d : α → PyData} (h : DpT T d) : DpR (rLst T) (fun xs => .list (xs.map d)) := fun K F H v a s ⟨p, vs, e, q, r⟩ => by
  rw [e]
  exact .lst q (dp_all h s r)
section
variable {e1 e2 : Expr} {α : Type} [DecidableEq α] {R S : Rl α} {m1 m2 : Out α} {pos : Pos}
theorem shp (c : Code α) (h : c.n ≤ 64) (a : α) : SeqAt.shaped (c.d a) = true := by
  unfold SeqAt.shaped
  rw [c.lay, Bool.true_and, decide_eq_true_eq]
  exact Nat.le_trans (c.dep a) h
theorem v_eqD {K : PySem.W.Frag} (c : Code α) (hn : c.n ≤ 64) (r1 : DpR R c.d) (r2 : DpR S c.d) : VOp K (rEqD K) R S tBool.rl (fun a b => pure (decide (a = b))) := fun F H x y a b Q J s h1 h2 p =>
  ⟨c.d a, c.d b, r1 _ _ _ _ _ s h1, r2 _ _ _ _ _ s h2, shp c hn a, shp c hn b, by rw [c.eqv]; exact p _ F H (Stp.refl s) rfl⟩
theorem v_neD {K : PySem.W.Frag} (c : Code α) (hn : c.n ≤ 64) (r1 : DpR R c.d) (r2 : DpR S c.d) : VOp K (rNeD K) R S tBool.rl (fun a b => pure (!decide (a = b))) := fun F H x y a b Q J s h1 h2 p =>
  ⟨c.d a, c.d b, r1 _ _ _ _ _ s h1, r2 _ _ _ _ _ s h2, shp c hn a, shp c hn b, by rw [c.eqv]; exact p _ F H (Stp.refl s) rfl⟩
theorem hu64 (C : XC X N sc k E) : X.A.units + 64 < cLine := by have := C.room.un; omega
theorem we_eqD (C : XC X N sc k E) (c : Code α) (r1 : DpR R c.d) (r2 : DpR S c.d) (h1 : WE X E B Γ e1 R m1) (h2 : WE X E B Γ e2 S m2) (hn : c.n ≤ 64 := by decide) : WE X E B Γ (.Compare e1 [.Eq] [e2] pos) tBool.rl (m1 >>= fun a => m2 >>= fun b => pure (decide (a = b))) := we_cmp (op_eqD (hu64 C)) (v_eqD c hn r1 r2) (nomark _) h1 h2
theorem wt_eqD (C : XC X N sc k E) (c : Code α) (r1 : DpR R c.d) (r2 : DpR S c.d) (h1 : WE X E B Γ e1 R m1) (h2 : WE X E B Γ e2 S m2) (hn : c.n ≤ 64 := by decide) : WT X E B Γ (.Compare e1 [.Eq] [e2] pos) (m1 >>= fun a => m2 >>= fun b => pure (decide (a = b))) := wt_cmp (op_eqD (hu64 C)) (v_eqD c hn r1 r2) (nomark _) h1 h2
theorem we_neD (C : XC X N sc k E) (c : Code α) (r1 : DpR R c.d) (r2 : DpR S c.d) (h1 : WE X E B Γ e1 R m1) (h2 : WE X E B Γ e2 S m2) (hn : c.n ≤ 64 := by decide) : WE X E B Γ (.Compare e1 [.NotEq] [e2] pos) tBool.rl (m1 >>= fun a => m2 >>= fun b => pure (!decide (a = b))) := we_cmp (op_neD (hu64 C)) (v_neD c hn r1 r2) (nomark _) h1 h2
theorem wt_neD (C : XC X N sc k E) (c : Code α) (r1 : DpR R c.d) (r2 : DpR S c.d) (h1 : WE X E B Γ e1 R m1) (h2 : WE X E B Γ e2 S m2) (hn : c.n ≤ 64 := by decide) : WT X E B Γ (.Compare e1 [.NotEq] [e2] pos) (m1 >>= fun a => m2 >>= fun b => pure (!decide (a = b))) := wt_cmp (op_neD (hu64 C)) (v_neD c hn r1 r2) (nomark _) h1 h2
end

/-! ### isinstance -/
/-- things of this kind are of the built-in type t -/
def TyR {α : Type} (R : Rl α) (t : α → String) : Prop := ∀ K F H v a, Same F H → R.rel K F H v a → TyX K H v (.type (t a))
theorem ty_int : TyR tInt.rl fun _ => "int" := fun K F H v a s h => by rw [show v = .int a from h]; exact .base (.int a)
theorem ty_bool : TyR tBool.rl fun _ => "bool" := fun K F H v a s h => by rw [show v = .bl a from h]; exact .base (.bl a)
theorem ty_str : TyR tStr.rl fun _ => "str" := fun K F H v a s h => by rw [show v = .str a from h]; exact .base (.str a)
theorem tyx_tup {K : PySem.W.Frag} {H : Hp} {p : Addr} {vs : List V} (h : SqT K H p vs) : TyX K H (.ref p) (.type "tuple") := by
  rcases h with (h | ⟨o, h⟩) | ⟨o, its, n, hk, hc, _⟩
  · exact .base (.tup h)
  · exact .fTuple h
  · exact .kTuple hk hc
theorem tyx_lst {K : PySem.W.Frag} {H : Hp} {p : Addr} {vs : List V} (h : SqL K H p vs) : TyX K H (.ref p) (.type "list") := by
  rcases h with (h | ⟨o, h⟩) | ⟨o, its, n, hk, hc, _⟩
  · exact .base (.lst h)
  · exact .base (.frz h)
  · exact .kList hk hc
theorem ty_tup {α : Type} {T : Ty α} : TyR (tTup T).rl fun _ => "tuple" := fun K F H v a s ⟨p, vs, e, q, r⟩ => by rw [e]; exact tyx_tup (seqT s q)
theorem ty_lst {α : Type} {T : Ty α} : TyR (tLst T).rl fun _ => "list" := fun K F H v a s ⟨p, vs, e, q, r⟩ => by rw [e]; exact tyx_lst (SqL.of (s _ _ q))
theorem ty_t2 {α β : Type} {T : Ty α} {U : Ty β} : TyR (tT2 T U).rl fun _ => "tuple" := fun K F H v a s ⟨p, v1, v2, e, q, r⟩ => by rw [e]; exact tyx_tup (seqT s q)
theorem ty_t3 {α β γ : Type} {T : Ty α} {U : Ty β} {W : Ty γ} : TyR (tT3 T U W).rl fun _ => "tuple" := fun K F H v a s ⟨p, v1, v2, v3, e, q, r⟩ => by rw [e]; exact tyx_tup (seqT s q)
theorem ty_t1 {α : Type} {T : Ty α} : TyR (tT1 T).rl fun _ => "tuple" := fun K F H v a s ⟨p, v1, e, q, r⟩ => by rw [e]; exact tyx_tup (seqT s q)
def tyD : PyData → String
  | .none => "NoneType" | .bool _ => "bool" | .int _ => "int" | .str _ => "str" | .list _ => "list" | .tuple _ => "tuple" | .dict _ => "dict"
theorem ty_D : TyR tD.rl tyD := fun K F H v a s h => by
  have h : Dp K F v a := h
  cases h with
  | non => exact .base .non
  | bl b => exact .base (.bl b)
  | int b => exact .base (.int b)
  | str b => exact .base (.str b)
  | lst q r => exact tyx_lst (s.seq q)
  | tup q r => exact tyx_tup (seqT s q)
/-- isinstance(e, c), c a built-in type -/
theorem we_isi (C : XC X N sc k E) (Z : Fre X.mg) {e : Expr} {α : Type} {R : Rl α} {m : Out α} {c : Str} {cn : String} {p p2 pos : Pos} {t : α → String} (b : α → Bool) (ty : TyR R t) (hb : ∀ a, kitB (t a) cn = some (b a)) (h : WE X E B Γ e R m)
    (hc : X.mg c = none) (hv : bootBuiltins c = some (.type cn)) (hg : GlN sc "isinstance" := by rfl) (hg2 : GlN sc c := by rfl) (hn : c ≠ "__name__" := by decide) (hd : (c == ("__debug__" : Str)) = false := by decide)
    (he : starEach (e :: .Name c p2 :: []) X.env = (false, eval e X.env) :: starEach (.Name c p2 :: []) X.env := by rfl) (he2 : starEach (.Name c p2 :: []) X.env = (false, eval (.Name c p2) X.env) :: starEach [] X.env := by rfl)
    (hpl : (backTo pos (starEach (.Name c p2 :: []) X.env)).any (·.1) = false := by rfl) :
    WE X E B Γ (.Call (.Name "isinstance" p) [e, .Name c p2] [] pos) tBool.rl (m >>= fun a => pure (b a)) := fun σ F H ω Q en q =>
  ⟨_, pe_callB call_isi (gl_ C hg) Z.isinstance (by decide +kernel) (pa_cons pe_s (pa_cons (pe_bltn (v := .ty cn) (gl_ C hg2) hc hv rfl hn hd) pa_nil he2) he) (he := he) (hpl := hpl),
    h σ F H ω _ en (q.bind.imp fun a q v F' H' s rv => ⟨v, .ty cn, .type (t a), .type cn, b a, rfl, .ty cn, ty _ _ _ _ _ s.fh rv, kit_ty (hb a), q _ F' H' s rfl⟩)⟩
/-- isinstance(e, (c1, c2)) -/
theorem we_isi2 (C : XC X N sc k E) (Z : Fre X.mg) {e : Expr} {α : Type} {R : Rl α} {m : Out α} {c d : Str} {cn dn : String} {j : Nat} {p p2 p3 p4 pos : Pos} {t : α → String} (b b2 : α → Bool) (ty : TyR R t) (hb : ∀ a, kitB (t a) cn = some (b a)) (hb2 : ∀ a, kitB (t a) dn = some (b2 a)) (h : WE X E B Γ e R m)
    (hc : X.mg c = none) (hv : bootBuiltins c = some (.type cn)) (hc2 : X.mg d = none) (hv2 : bootBuiltins d = some (.type dn)) (hg : GlN sc "isinstance" := by rfl) (hg2 : GlN sc c := by rfl) (hg3 : GlN sc d := by rfl) (hn : c ≠ "__name__" := by decide) (hd : (c == ("__debug__" : Str)) = false := by decide)
    (hn2 : d ≠ "__name__" := by decide) (hd2 : (d == ("__debug__" : Str)) = false := by decide)
    (he : starEach (e :: .Tuple [.Name c p2, .Name d p3] j p4 :: []) X.env = (false, eval e X.env) :: starEach (.Tuple [.Name c p2, .Name d p3] j p4 :: []) X.env := by rfl) (he2 : starEach (.Tuple [.Name c p2, .Name d p3] j p4 :: []) X.env = (false, eval (.Tuple [.Name c p2, .Name d p3] j p4) X.env) :: starEach [] X.env := by rfl)
    (hpl : (backTo pos (starEach (.Tuple [.Name c p2, .Name d p3] j p4 :: []) X.env)).any (·.1) = false := by rfl)
    (ht : starEach (.Name c p2 :: .Name d p3 :: []) X.env = (false, eval (.Name c p2) X.env) :: starEach (.Name d p3 :: []) X.env := by rfl) (ht2 : starEach (.Name d p3 :: []) X.env = (false, eval (.Name d p3) X.env) :: starEach [] X.env := by rfl) :
    WE X E B Γ (.Call (.Name "isinstance" p) [e, .Tuple [.Name c p2, .Name d p3] j p4] [] pos) tBool.rl (m >>= fun a => pure (b a || b2 a)) := fun σ F H ω Q en q =>
  ⟨_, pe_callB call_isiT (gl_ C hg) Z.isinstance (by decide +kernel) (pa_cons pe_s (pa_cons (pe_tup (pa_cons (pe_bltn (v := .ty cn) (gl_ C hg2) hc hv rfl hn hd) (pa_cons (pe_bltn (v := .ty dn) (gl_ C hg3) hc2 hv2 rfl hn2 hd2) pa_nil ht2) ht)) pa_nil he2) he) (he := he) (hpl := hpl),
    h σ F H ω _ en (q.bind.imp fun a q v F' H' s rv => ⟨le_line (by simp), fun tp htp => by
      have s2 := Stp.newH (o := .tup [.ty cn, .ty dn]) s.fh htp
      refine ⟨v, tp, [.ty cn, .ty dn], .type (t a), [.type cn, .type dn], b a || b2 a, rfl, upd_same, .cons (.ty cn) (.cons (.ty dn) .nil), ty _ _ _ _ _ s2.fh (R.mono s2 rv), ?_, q _ F' _ (s.trans s2) rfl⟩
      refine kitAny_cons (kit_ty (hb a)) (fun e => ?_) (fun e => by rw [e]; rfl)
      rw [e, Bool.false_or]
      exact kitAny_cons (kit_ty (hb2 a)) (fun e => by rw [e]; rfl) (fun e => e)⟩)⟩
end SL

set_option Elab.async false
set_option linter.all false
set_option maxRecDepth 100000
set_option maxHeartbeats 2000000
/-! SLm: index; comprehensions of two clauses. -/
namespace SL
open PySem PySem.Spec PyProof.Rows L2
variable {X : Cx} {N : List Str} {sc : Scp} {k : Nat} {E : XK} {B : Bs} {Γ : List Slot}
/-! ### xs.index(e) -/
def indexO {α : Type} [DecidableEq α] (xs : List α) (x : α) : Out Int := if x ∈ xs then pure ((xs.findIdx (fun y => decide (y = x)) : Nat) : Int) else .stuck
theorem fa2_find {K : PySem.W.Frag} {F : Hp} {α : Type} [DecidableEq α] {T : Ty α} (q : EqF T) {y : V} {x : α} (hy : T.rel K F y x) : ∀ {vs : List V} {as : List α}, Fa2 (T.rel K F) vs as → x ∈ as →
    ∃ z, vs[as.findIdx (fun a => decide (a = x))]? = some z ∧ eqV z y = true ∧ ∀ (m : Nat) (z' : V), m < as.findIdx (fun a => decide (a = x)) → vs[m]? = some z' → eqV z' y = false
  | _, _, .nil, h => by simp at h
  | v :: vs, a :: as, .cons r t, h => by
    have e := (q K F y v x a hy r).2
    by_cases c : a = x
    · subst c
      refine ⟨v, by simp [List.findIdx_cons], by rw [e]; simp, fun m z' hm hz => ?_⟩
      simp [List.findIdx_cons] at hm
    · have h2 : x ∈ as := by
        rcases List.mem_cons.mp h with z | z
        · exact absurd z.symm c
        · exact z
      obtain ⟨z, h3, h4, h5⟩ := fa2_find q hy t h2
      have ei : (a :: as).findIdx (fun b => decide (b = x)) = as.findIdx (fun b => decide (b = x)) + 1 := by
        rw [List.findIdx_cons]
        simp [c]
      rw [ei]
      refine ⟨z, by simpa using h3, h4, fun m z' hm hz => ?_⟩
      cases m with
      | zero =>
        simp at hz
        subst hz
        rw [e]
        exact decide_eq_false (fun z => c z.symm)
      | succ m => exact h5 m z' (by omega) (by simpa using hz)
theorem we_indexL (C : XC X N sc k E) {o e : Expr} {α : Type} [DecidableEq α] {T : Ty α} {m : Out (List α)} {m2 : Out α} {p2 p3 : Pos} (q : EqF T) (h : WE X E B Γ o (rLst T) m) (h2 : WE X E B Γ e T.rl m2)
    (hbase : attributeBase o "index" X.env (eval o X.env) = eval o X.env := by rfl)
    (hfew : ((backTo p3 (starEach (e :: []) X.env)).all (fun x => !x.1) && (backToKw p3 (keywordEach [] X.env)).all (fun x => x.1.isSome) && decide ((e :: []).length + ([] : List Keyword).length + (if ([] : List Keyword).isEmpty then 0 else 1) < 30)) = true := by rfl)
    (hline : (p2.endLine == p3.line) = true := by rfl) (hs : starEach (e :: []) X.env = (false, eval e X.env) :: starEach [] X.env := by rfl) :
    WE X E B Γ (.Call (.Attribute o "index" p2) [e] [] p3) tInt.rl (m >>= fun a => m2 >>= fun b => indexO a b) := fun σ F H ω Q en po => by
  refine ⟨_, pe_bm PySem.F.plainAttrs_list PySem.F.slot_list_index PySem.F.type_list_index mt_index pe_s (pa_cons pe_s pa_nil hs) hbase hfew hline hs, ?_⟩
  refine h σ F H ω _ en (po.bind.imp fun xs po v F1 H1 s1 ⟨p, vs, e, sq, r⟩ => ?_)
  subst e
  refine ⟨.inl ⟨rfl, vs, sq⟩, ?_⟩
  refine h2 σ F1 H1 ω _ (en.stp s1) (po.bind.imp fun x po y F2 H2 s2 ry => ?_)
  unfold indexO at po
  by_cases c : x ∈ xs
  · rw [if_pos c] at po
    have r2 : Fa2 (T.rel X.K F2) vs xs := r.imp fun _ _ => T.mono s2.ff
    obtain ⟨z, h3, h4, h5⟩ := fa2_find q ry r2 c
    obtain ⟨f1, _⟩ := inV_eq q ry r2
    exact ⟨p, vs, y, _, z, rfl, rfl, s2.hh.seq sq, (q _ F2 y y x x ry ry).1, f1, h3, h4, h5, po _ F2 H2 (s1.trans s2) rfl⟩
  · rw [if_neg c] at po
    exact po.elim

/-! ### [elt for tg in iter if .. for tg1 in iter1 if ..] -/
/-- the pairs of both walks, in order -/
def comp2O {α β γ : Type} (f : α → Out (List β)) (g : α → β → Out (Option γ)) : List α → Out (List γ)
  | [] => pure []
  | x :: xs => match f x with
    | .ok ys => (match compO (g x) ys with
      | .ok bs => (match comp2O f g xs with
        | .ok cs => .ok (bs ++ cs)
        | _ => .stuck)
      | _ => .stuck)
    | _ => .stuck
theorem comp2_cons {α β γ : Type} {f : α → Out (List β)} {g : α → β → Out (Option γ)} {x : α} {xs : List α} {r : List γ} (h : comp2O f g (x :: xs) = .ok r) : ∃ ys bs cs, f x = .ok ys ∧ compO (g x) ys = .ok bs ∧ comp2O f g xs = .ok cs ∧ r = bs ++ cs := by
  unfold comp2O at h
  cases e1 : f x with
  | ok ys =>
    simp only [e1] at h
    cases e2 : compO (g x) ys with
    | ok bs =>
      simp only [e2] at h
      cases e3 : comp2O f g xs with
      | ok cs =>
        simp only [e3] at h
        cases h
        exact ⟨ys, bs, cs, rfl, e2, rfl, rfl⟩
      | err z => simp only [e3] at h; cases h
      | stuck => simp only [e3] at h; cases h
    | err z => simp only [e2] at h; cases h
    | stuck => simp only [e2] at h; cases h
  | err z => rw [e1] at h; cases h
  | stuck => rw [e1] at h; cases h
/-- lists that the machine holds -/
def limO {α : Type} (xs : List α) : Out (List α) := if xs.length ≤ 16777216 then pure xs else .stuck
theorem comp_cons {α β : Type} {f : α → Out (Option β)} {a : α} {xs : List α} {r : List β} (h : compO f (a :: xs) = .ok r) : (f a = .ok none ∧ compO f xs = .ok r) ∨ ∃ b r2, f a = .ok (some b) ∧ compO f xs = .ok r2 ∧ r = b :: r2 := by
  unfold compO at h
  cases e : f a with
  | ok o =>
    rw [e] at h
    cases o with
    | none => exact .inl ⟨rfl, h⟩
    | some b =>
      cases e2 : compO f xs with
      | ok r2 =>
        simp only [e2] at h
        cases h
        exact .inr ⟨b, r2, rfl, rfl, rfl⟩
      | err x => simp only [e2] at h; cases h
      | stuck => simp only [e2] at h; cases h
  | err x => rw [e] at h; cases h
  | stuck => rw [e] at h; cases h
/-- an address that nobody knows is written -/
theorem env_updN {K : PySem.W.Frag} {Γ : List Slot} {σ : L2.St} {F H : Hp} {ω : Ow} {D : Addr} {o : HO} (e : EnvOk K B Γ σ F H ω) (h1 : ω D = none) (h2 : B.H D = none) (h3 : F D = none) : EnvOk K B Γ σ F (upd H D o) ω := by
  refine ⟨⟨e.base.ff, fun a u h => ?_, fun a u h n => ?_, fun a h => ?_, e.base.old⟩, e.len, fun a i h => ?_, fun i s h => Slot.keep (e.slot i s h) (Same.refl F) fun p hp => upd_ne fun z => ?_⟩
  · rw [upd_ne (fun z => by rw [z, h3] at h; cases h)]
    exact e.base.fh a u h
  · rw [upd_ne (fun z => by rw [z, h2] at h; cases h)]
    exact e.base.hh a u h n
  · by_cases c : a = D
    · rw [c, upd_same]
      exact fun z => nomatch z
    · rw [upd_ne c]
      exact e.base.there a h
  · obtain ⟨x, y, z⟩ := e.own a i h
    refine ⟨x, ?_, z⟩
    rw [upd_ne (fun z => by rw [z, h1] at h; cases h)]
    exact y
  · rw [z, h1] at hp
    cases hp
section
variable {tg iter tg1 iter1 elt : Expr} {ifs1 : List Expr} {scope : Scope} {own : List (Str × Nat)} {vs1 : List Nat} {pos p : Pos} {α β γ : Type} {T : Ty α} {S : Ty β} {U : Ty γ} {mi : Out (List α)} {ix ix1 : List Nat} {g : α → List Slot → List Slot} {g1 : β → List Slot → List Slot} {mi1 : α → Out (List β)} {mc : α → β → Out Bool} {m : α → β → Out γ}
theorem lc2_read (C : XC X N sc k E) (hv1 : ∀ j ∈ vs1, j ∈ own.map (·.2)) (hit : WI X E B Γ tg iter T mi) (hix : ∀ j ∈ ix, j ∈ own.map (·.2)) (hg : ∀ s H' Cc cl fp, WG (bx X scope s H' Cc cl fp) B tg T ix g)
    (hit1 : ∀ s H' Cc cl fp a, WI (bx X scope s H' Cc cl fp) E0 B (g a (wipeS Γ (own.map (·.2)))) tg1 iter1 S (mi1 a)) (hix1 : ∀ j ∈ ix1, j ∈ vs1) (hg1 : ∀ s H' Cc cl fp, WG (bx X scope s H' Cc cl fp) B tg1 S ix1 g1)
    (hc : ∀ s H' Cc cl fp a b, WTs (bx X scope s H' Cc cl fp) E0 B (g1 b (wipeS (g a (wipeS Γ (own.map (·.2)))) vs1)) ifs1 (mc a b)) (he : ∀ s H' Cc cl fp a b, WE (bx X scope s H' Cc cl fp) E0 B (g1 b (wipeS (g a (wipeS Γ (own.map (·.2)))) vs1)) elt U.rl (m a b))
    {σ : L2.St} {F H : Hp} {ω : Ow} {Q : VK} (en : EnvOk X.K B Γ σ F H ω) (po : Post (mi >>= fun xs => comp2O mi1 (fun a b => ifO (mc a b) (m a b)) xs >>= limO) (fun bs => ∀ v F' H' S, Stp F H F' H' → (∀ p, S p → F' p = none ∧ H' p ≠ none ∧ H p = none) → (oLst U).rel X.K F' H' S v bs → Q v H') (RB X.K B E)) :
    tLc2 (sI X tg iter) (uG X scope tg) (uT X scope []) (uI X scope tg1 iter1) (uG X scope tg1) (uT X scope ifs1) (uE X scope elt) (own.map (·.2)) vs1 σ H Q := by
  refine hit σ F H ω _ en (po.bind.imp fun xs q J F1 H1 s1 tw hl D hD => ?_)
  have hD0 : H D = none := s1.hh.free hD
  have hF1 : F1 D = none := s1.fh.free hD
  obtain ⟨bs, hb, hbl, q⟩ : ∃ bs, comp2O mi1 (fun a b => ifO (mc a b) (m a b)) xs = .ok bs ∧ bs.length ≤ 16777216 ∧ ∀ v F' H' S, Stp F H F' H' → (∀ p, S p → F' p = none ∧ H' p ≠ none ∧ H p = none) → (oLst U).rel X.K F' H' S v bs → Q v H' := by
    cases e : comp2O mi1 (fun a b => ifO (mc a b) (m a b)) xs with
    | ok bs =>
      rw [e] at q
      have q : Post (limO bs) _ _ := q
      unfold limO at q
      by_cases c : bs.length ≤ 16777216
      · rw [if_pos c] at q
        exact ⟨bs, rfl, c, q⟩
      · rw [if_neg c] at q
        exact q.elim
    | err x =>
      exfalso
      have : ∀ ys : List α, comp2O mi1 (fun a b => ifO (mc a b) (m a b)) ys ≠ .err x := by
        intro ys z
        cases ys with
        | nil => cases z
        | cons y ys =>
          unfold comp2O at z
          split at z
          · split at z
            · split at z <;> cases z
            · cases z
          · cases z
      exact this xs e
    | stuck => rw [e] at q; exact q.elim
  have enw := env_wipe (en.stp s1) (own.map (·.2))
  -- what stands in the new list: acc; its length is bounded by the reader's own bound at each append
  refine ⟨fun i mm H' => mm = xs.length - i ∧ i ≤ xs.length ∧ ∃ F' vs acc rest, Stp F1 H1 F' H' ∧ F' D = none ∧ H' D = some (.lst vs) ∧ Fa2 (U.rel X.K F') vs acc ∧ comp2O mi1 (fun a b => ifO (mc a b) (m a b)) (xs.drop i) = .ok rest ∧ bs = acc ++ rest,
    ⟨xs.length, by simp, Nat.zero_le _, F1, [], [], bs, Stp.newH s1.fh hD, hF1, upd_same, .nil, by rw [List.drop_zero]; exact hb, rfl⟩, ?_⟩
  rintro i mm H' ⟨rfl, hi, F', vs, acc, rest, s', hF', hH', ra, hr, ebs⟩
  by_cases hlt : i < xs.length
  · refine .inr ⟨tw.goes i F' H' hlt s'.ff s'.fh, _, fun H2 h => h, fun x H2 y => ?_⟩
    obtain ⟨F2, a, s2, ea, rx⟩ := tw.yields i F' H' x H2 hlt s'.ff s'.fh y
    have ed : xs.drop i = a :: xs.drop (i + 1) := by
      rw [List.getElem?_eq_getElem hlt] at ea
      rw [List.drop_eq_getElem_cons hlt, Option.some.inj ea]
    rw [ed] at hr
    obtain ⟨ys, b1, c1, e1, e2, e3, e4⟩ := comp2_cons hr
    have s3 := s'.trans s2
    have hF2 : F2 D = none := s2.old D hF' (by rw [hH']; exact fun z => nomatch z)
    have hH2 : H2 D = some (.lst vs) := s2.hh _ _ hH'
    intro sb Hb Cb clb fpb
    refine hg sb Hb Cb clb fpb _ F2 H2 ω _ x a _ (enw.stp s3) rx fun σ2 ω2 k2 l2 o2 en2 => ?_
    refine ⟨(wipe_eq k2 l2 hix).trans (wipe_wipe _ _), ?_⟩
    intro sc2 Hc2 Cc2 clc2 fpc2
    refine ⟨_, pts_nil, ?_⟩
    simp only [if_true]
    intro sd Hd Cd cld fpd
    refine hit1 sd Hd Cd cld fpd a σ2 F2 H2 ω2 _ en2 ?_
    rw [e1]
    intro J1 F3 H3 s4 tw1 hl1
    have s34 := s3.trans s4
    have hF3 : F3 D = none := s4.old D hF2 (by rw [hH2]; exact fun z => nomatch z)
    have hH3 : H3 D = some (.lst vs) := s4.hh _ _ hH2
    have en3 := en2.stp s4
    have enw1 := env_wipe en3 vs1
    have hω2 : ω2 D = none := o2 D (by
      cases h : ω D with
      | none => rfl
      | some i => exact absurd hD0 (en.own D i h).2.1)
    have hBD : B.H D = none := by
      cases h : B.H D with
      | none => rfl
      | some o => exact absurd hD0 (en.base.there D (by rw [h]; exact fun z => nomatch z))
    refine ⟨fun j kk H' => kk = ys.length - j ∧ j ≤ ys.length ∧ ∃ F' vs acc1 rest1, Same F3 F' ∧ EnvOk X.K B (wipeS (g a (wipeS Γ (own.map (·.2)))) vs1) (wipe σ2 vs1) F' H' ω2 ∧ Stp F1 H1 F' H' ∧ F' D = none ∧ H' D = some (.lst vs) ∧ Fa2 (U.rel X.K F') vs (acc ++ acc1) ∧ compO (fun b => ifO (mc a b) (m a b)) (ys.drop j) = .ok rest1 ∧ b1 = acc1 ++ rest1, ⟨ys.length, by simp, Nat.zero_le _, F3, vs, [], b1, Same.refl F3, enw1, s34, hF3, hH3, by rw [List.append_nil]; exact ra.imp fun _ _ => U.mono (s2.trans s4).ff, by rw [List.drop_zero]; exact e2, rfl⟩, ?_⟩
    rintro j kk H4 ⟨rfl, hj, F4, vs4, acc1, rest1, sa, ea4, sb4, hF4, hH4, ra4, hr4, eb1⟩
    by_cases hjl : j < ys.length
    · refine .inr ⟨tw1.goes j F4 H4 hjl sa sb4.fh, _, fun H2 h => h, fun x1 H5 y5 => ?_⟩
      obtain ⟨F5, b, s5, eb, rx5⟩ := tw1.yields j F4 H4 x1 H5 hjl sa sb4.fh y5
      have ed5 : ys.drop j = b :: ys.drop (j + 1) := by
        rw [List.getElem?_eq_getElem hjl] at eb
        rw [List.drop_eq_getElem_cons hjl, Option.some.inj eb]
      rw [ed5] at hr4
      have hF5 : F5 D = none := s5.old D hF4 (by rw [hH4]; exact fun z => nomatch z)
      have hH5 : H5 D = some (.lst vs4) := s5.hh _ _ hH4
      have ea5 := ea4.stp s5
      intro se He Ce cle fpe
      refine hg1 se He Ce cle fpe _ F5 H5 ω2 _ x1 b _ ea5 rx5 fun σ6 ω6 k6 l6 _ en6 => ?_
      refine ⟨(wipe_eq k6 l6 hix1).trans (wipe_wipe _ _), ?_⟩
      intro sf Hf Cf clf fpf
      rcases comp_cons hr4 with ⟨i1, i2⟩ | ⟨c, r2, i1, i2, i3⟩
      · have hm := ifO_none i1
        refine hc sf Hf Cf clf fpf a b σ6 F5 H5 ω6 _ en6 ?_
        rw [hm]
        intro F6 H6 s6
        simp only [Bool.false_eq_true, if_false]
        exact ⟨ys.length - (j + 1), by omega, rfl, hjl, F6, vs4, acc1, rest1, (sa.trans s5.ff).trans s6.ff, ea5.stp s6, (sb4.trans s5).trans s6, s6.old D hF5 (by rw [hH5]; exact fun z => nomatch z), s6.hh _ _ hH5, ra4.imp fun _ _ => U.mono (s5.trans s6).ff, i2, eb1⟩
      · obtain ⟨hm, hv⟩ := ifO_some i1
        refine hc sf Hf Cf clf fpf a b σ6 F5 H5 ω6 _ en6 ?_
        rw [hm]
        intro F6 H6 s6
        simp only [if_true]
        intro sg Hg Cg clg fpg
        refine he sg Hg Cg clg fpg a b σ6 F6 H6 ω6 _ (en6.stp s6) ?_
        rw [hv]
        intro v F7 H7 s7 rv
        have s57 := (s5.trans s6).trans s7
        have hF7 : F7 D = none := (s6.trans s7).old D hF5 (by rw [hH5]; exact fun z => nomatch z)
        have hH7 : H7 D = some (.lst vs4) := (s6.trans s7).hh _ _ hH5
        refine ⟨vs4, hH7, ?_, ?_⟩
        · rw [ra4.len, sizeLine_eq]
          have : (acc ++ acc1).length < bs.length := by
            rw [ebs, e4, eb1, i3]
            simp only [List.length_append, List.length_cons]
            omega
          omega
        · exact ⟨ys.length - (j + 1), by omega, rfl, hjl, F7, vs4 ++ [v], acc1 ++ [c], r2, sa.trans s57.ff, env_updN ((ea5.stp s6).stp s7) hω2 hBD hF7, (sb4.trans s57).updN hD hF7, hF7, upd_same, by
            rw [← List.append_assoc]
            exact (ra4.imp fun _ _ => U.mono s57.ff).app (.cons rv .nil), i2, by rw [eb1, i3, List.append_assoc] <;> rfl⟩
    · have ej : j = ys.length := by omega
      subst ej
      rw [List.drop_length] at hr4
      have er : rest1 = [] := by cases hr4; rfl
      subst er
      rw [List.append_nil] at eb1
      subst eb1
      refine .inl ⟨tw1.stops F4 H4 sa sb4.fh, ?_⟩
      exact ⟨xs.length - (i + 1), by omega, rfl, hlt, F4, vs4, acc ++ b1, c1, sb4, hF4, hH4, ra4, e3, by rw [ebs, e4, List.append_assoc]⟩
  · have e : i = xs.length := by omega
    subst e
    rw [List.drop_length] at hr
    have er : rest = [] := by cases hr; rfl
    subst er
    rw [List.append_nil] at ebs
    subst ebs
    refine .inl ⟨tw.stops F' H' s'.ff s'.fh, ?_⟩
    exact q (.ref D) F' H' (fun a => a = D) (s1.trans s') (fun a e => by
      subst e
      exact ⟨hF', (by rw [hH']; exact fun z => nomatch z), hD0⟩) ⟨D, vs, rfl, rfl, hH', ra⟩
/-- as a value -/
theorem wo_lc2 (C : XC X N sc k E) (own : List (Str × Nat)) (vs1 : List Nat) (hk : blkC N sc.sc scope own = true) (hv1 : ∀ j ∈ vs1, j ∈ own.map (·.2)) (hit : WI X E B Γ tg iter T mi) (hix : ∀ j ∈ ix, j ∈ own.map (·.2)) (hg : ∀ s H' Cc cl fp, XC (bx X scope s H' Cc cl fp) N ⟨relS scope sc.sc, scope⟩ k E0 → WG (bx X scope s H' Cc cl fp) B tg T ix g)
    (hit1 : ∀ s H' Cc cl fp a, XC (bx X scope s H' Cc cl fp) N ⟨relS scope sc.sc, scope⟩ k E0 → WI (bx X scope s H' Cc cl fp) E0 B (g a (wipeS Γ (own.map (·.2)))) tg1 iter1 S (mi1 a)) (hg1 : ∀ s H' Cc cl fp, XC (bx X scope s H' Cc cl fp) N ⟨relS scope sc.sc, scope⟩ k E0 → WG (bx X scope s H' Cc cl fp) B tg1 S ix1 g1) (hix1 : ∀ j ∈ ix1, j ∈ vs1)
    (hc : ∀ s H' Cc cl fp a b, XC (bx X scope s H' Cc cl fp) N ⟨relS scope sc.sc, scope⟩ k E0 → WTs (bx X scope s H' Cc cl fp) E0 B (g1 b (wipeS (g a (wipeS Γ (own.map (·.2)))) vs1)) ifs1 (mc a b)) (he : ∀ s H' Cc cl fp a b, XC (bx X scope s H' Cc cl fp) N ⟨relS scope sc.sc, scope⟩ k E0 → WE (bx X scope s H' Cc cl fp) E0 B (g1 b (wipeS (g a (wipeS Γ (own.map (·.2)))) vs1)) elt U.rl (m a b))
    (hs : ∀ x, foldedSetIterable iter X.env x = pure x := by intro _; rfl) (hs1 : ∀ env x, foldedSetIterable iter1 env x = pure x := by intro _ _; rfl) :
    WO X E B Γ (.ListComp elt [⟨tg, iter, [], 0⟩, ⟨tg1, iter1, ifs1, 0⟩] scope pos) (oLst U) (mi >>= fun xs => comp2O mi1 (fun a b => ifO (mc a b) (m a b)) xs >>= limO) := fun σ F H ω Q en po =>
  ⟨_, pe_lc2 C.calm (by rw [C.nm]; exact C.nd) pi_s (blk_ok C hk) hv1 pg_u pts_u pi_u pg_u pts_u pe_u hs hs1, lc2_read C hv1 hit hix (fun s H' Cc cl fp => hg s H' Cc cl fp (xc_blk C s H' Cc cl fp)) (fun s H' Cc cl fp a => hit1 s H' Cc cl fp a (xc_blk C s H' Cc cl fp)) hix1 (fun s H' Cc cl fp => hg1 s H' Cc cl fp (xc_blk C s H' Cc cl fp)) (fun s H' Cc cl fp a b => hc s H' Cc cl fp a b (xc_blk C s H' Cc cl fp)) (fun s H' Cc cl fp a b => he s H' Cc cl fp a b (xc_blk C s H' Cc cl fp)) en po⟩
/-- name = [..] on one line -/
theorem ws_lc2 {b : List Stmt} {bs : List (List Stmt)} {δ : Type} {D : δ → SOut} {f : List γ → Out δ} {y : Str} {py spos : Pos} (C : XC X N sc k E) (i : Nat) (own : List (Str × Nat)) (vs1 : List Nat) (hk : blkC N sc.sc scope own = true) (hv1 : ∀ j ∈ vs1, j ∈ own.map (·.2)) (hit : WI X E B Γ tg iter T mi) (hix : ∀ j ∈ ix, j ∈ own.map (·.2))
    (hg : ∀ s H' Cc cl fp, XC (bx X scope s H' Cc cl fp) N ⟨relS scope sc.sc, scope⟩ k E0 → WG (bx X scope s H' Cc cl fp) B tg T ix g) (hit1 : ∀ s H' Cc cl fp a, XC (bx X scope s H' Cc cl fp) N ⟨relS scope sc.sc, scope⟩ k E0 → WI (bx X scope s H' Cc cl fp) E0 B (g a (wipeS Γ (own.map (·.2)))) tg1 iter1 S (mi1 a)) (hg1 : ∀ s H' Cc cl fp, XC (bx X scope s H' Cc cl fp) N ⟨relS scope sc.sc, scope⟩ k E0 → WG (bx X scope s H' Cc cl fp) B tg1 S ix1 g1) (hix1 : ∀ j ∈ ix1, j ∈ vs1)
    (hc : ∀ s H' Cc cl fp a b, XC (bx X scope s H' Cc cl fp) N ⟨relS scope sc.sc, scope⟩ k E0 → WTs (bx X scope s H' Cc cl fp) E0 B (g1 b (wipeS (g a (wipeS Γ (own.map (·.2)))) vs1)) ifs1 (mc a b)) (he : ∀ s H' Cc cl fp a b, XC (bx X scope s H' Cc cl fp) N ⟨relS scope sc.sc, scope⟩ k E0 → WE (bx X scope s H' Cc cl fp) E0 B (g1 b (wipeS (g a (wipeS Γ (own.map (·.2)))) vs1)) elt U.rl (m a b))
    (hr : ∀ a, WS X E B (Γ.set i (.on _ (oLst U) a)) (b :: bs) (f a) D) (hN : N[i]? = some y := by rfl) (hyl : sc.sc.names.lookup y = some .local := by rfl) (hkd : sc.sc.kind = .function := by rfl) (hln : (py.line == pos.line) = true := by rfl)
    (hna : (scope.names.any fun (n, k) => n == y && (k == .local || k == .cell)) = false := by decide +kernel) (hs : ∀ x, foldedSetIterable iter X.env x = pure x := by intro _; rfl) (hs1 : ∀ env x, foldedSetIterable iter1 env x = pure x := by intro _ _; rfl) :
    WS X E B Γ ((.Assign [.Name y py] (.ListComp elt [⟨tg, iter, [], 0⟩, ⟨tg1, iter1, ifs1, 0⟩] scope pos) spos :: b) :: bs) ((mi >>= fun xs => comp2O mi1 (fun a b => ifO (mc a b) (m a b)) xs >>= limO) >>= f) D := fun σ F H ω En en q => by
  have hyl' : X.env.scope.names.lookup y = some .local := by rw [C.scp]; exact hyl
  refine sK_cons ⟨_, ps_setLc2 (i := i) C.calm (by rw [C.nm]; exact C.nd) (by rw [C.nm]; exact hN) hyl' (sw_true (by rw [C.scp]; exact hkd) hyl' hln hna) pi_s (blk_ok C hk) hv1 pg_u pts_u pi_u pg_u pts_u pe_u hs hs1, ?_⟩
  refine lc2_read C hv1 hit hix (fun s H' Cc cl fp => hg s H' Cc cl fp (xc_blk C s H' Cc cl fp)) (fun s H' Cc cl fp a => hit1 s H' Cc cl fp a (xc_blk C s H' Cc cl fp)) hix1 (fun s H' Cc cl fp => hg1 s H' Cc cl fp (xc_blk C s H' Cc cl fp)) (fun s H' Cc cl fp a b => hc s H' Cc cl fp a b (xc_blk C s H' Cc cl fp)) (fun s H' Cc cl fp a b => he s H' Cc cl fp a b (xc_blk C s H' Cc cl fp)) en (q.bind.imp fun a q v F1 H1 S s1 d r => ?_)
  obtain ⟨ω', en'⟩ := env_setO (i := i) (en.stp s1) (new_ok en s1 d) r
  exact hr a _ F1 H1 _ En en' (q.imp fun b z => EndOk.up z s1.ff)
end
end SL

set_option Elab.async false
set_option linter.all false
set_option maxRecDepth 100000
set_option maxHeartbeats 3200000
/-! SLn: set(xs) of a list of ints. -/
namespace SL
open PySem PySem.Spec PyProof.Rows L2
section
variable {P : Program} {w : World} {A : Around} {E : Value → Shared → Prop} {s : Shared}
/-- the new set's object -/
abbrev setO0 (w : World) : Obj := { cls := .type "set", dict := none, data := .set #[] 0 (.fresh 0 0 (!w.params.followText "set-order")) }
theorem call_set_ints {l : Addr} {items : Array Value} (ns : List Int) {Q : Value → Shared → Prop} (hh : A.handled = none) (hl : s.heap.IsList l items) (hit : IntsAre items.toList ns) (hb : ns.length + 1 < scanBound)
    (h : ∀ (h' : Heap) (tk c : Nat), SetR w h' s.heap.objs.size (fun j => decide (j ∈ ns)) c → c ≤ ns.length → (∀ b o, s.heap.get? b = some o → h'.get? b = some o) → Q (.ref s.heap.objs.size) { s with heap := h', toks := tk }) :
    wpAny (model P w) A (call (.type "set") [.ref l]) Q E s := by
  have hisz : items.size = ns.length := by
    have q := IntsAre.length hit
    rwa [Array.length_toList] at q
  obtain ⟨c, tl, hmro⟩ := F.called_set.mro
  have hmade := F.called_set.made
  have hsub := F.called_set.sub
  have h1 := F.called_set.notType
  have h2 := F.called_set.canCreate
  have hct := F.typeCall_set_1 (.ref l)
  refine wpAny_call (codeAny_of_tree ?_)
  show wpAny _ _ (callAny (.type "set") _) _ _ _
  refine wpAny_pure ⟨Code.quiet_builtin _ (by decide +kernel), codeAny_builtin F.entry_type_call ?_⟩
  rw [Around.under_plain (weight_type_call_type "set" [.ref l] []) rfl]
  repeat (any_goals (first | assumption | wp_step))
  refine codeAny_mono (code_set_led1 (.ref l) (E := E) (Q₁ := fun obj s₁ => obj = .ref s.heap.objs.size ∧ s₁ = { s with heap := s.heap.push (setO0 w) }) ⟨rfl, rfl⟩) fun r s₁ hr => ?_
  cases r with
  | error e => exact hr
  | ok fl =>
    cases fl with
    | ret obj =>
      obtain ⟨rfl, rfl⟩ := hr
      have hS : (s.heap.push (setO0 w)).get? s.heap.objs.size = some (setO0 w) := Heap.get?_push_size _ rfl
      have hT : Shared.TypeIs { s with heap := s.heap.push (setO0 w) } (.ref s.heap.objs.size) "set" := ⟨_, hS, rfl⟩
      have hli := F.called_set.init.lookup
      have hbi := F.called_set.init.bind (.ref s.heap.objs.size)
      repeat (any_goals (first | assumption | wp_step))
      refine codeAny_mono (codeAny_call_builtin (R := wants (fun r s₂ => r = .none ∧ ∃ h' tk c, s₂ = { s with heap := h', toks := tk } ∧ SetR w h' s.heap.objs.size (fun j => decide (j ∈ ns)) c ∧ c ≤ ns.length ∧
          (∀ b o, s.heap.get? b = some o → h'.get? b = some o)) E) F.called_set.init.plain F.entry_set_init (check_set_init_1 hT ?_)) fun r₂ s₂ hr₂ => ?_
      · obtain ⟨⟨ocls, odict, odata, oslots⟩, hol, hcl, nl, hdl⟩ := hl
        simp only at hcl hdl
        subst hcl; subst hdl
        have hol' : (s.heap.push (setO0 w)).get? l = some { cls := .type "list", dict := odict, data := .seq items nl, slots := oslots } := Heap.get?_push_of_some _ hol
        have hsls := F.sub_list_set
        have hslf := F.sub_list_frozenset
        have hne : (Value.type "list" == Value.type "dict") = false := by decide
        have hl1 : (s.heap.push (setO0 w)).IsList l items := ⟨_, hol', rfl, nl, rfl⟩
        have hlS : l < s.heap.objs.size := Heap.lt_size hol
        have hzz : (s.heap.push (setO0 w)).objs.size = s.heap.objs.size + 1 := Heap.size_push ..
        have hneI : l ≠ (s.heap.push (setO0 w)).objs.size := by
          rw [hzz]; exact Nat.ne_of_lt (Nat.lt_succ_of_lt hlS)
        have hSf : s.heap.objs.size ∉ [(s.heap.push (setO0 w)).objs.size, l] := by
          rw [hzz]; simp only [List.mem_cons, List.not_mem_nil, or_false, not_or]
          exact ⟨Nat.ne_of_lt (Nat.lt_succ_self _), Nat.ne_of_gt hlS⟩
        have hval : ∀ (i : Nat) (v : Value), items[i]? = some v → ∃ k t, ns[i]? = some k ∧ v = .int k t := fun i v hv => by
          have hi : i < ns.length := by rw [← hisz]; exact (Array.getElem?_eq_some_iff.mp hv).1
          obtain ⟨t, e⟩ := PyProof.Rows.IntsAre.int_at hit i v (by rw [Array.getElem?_toList]; exact hv)
          refine ⟨ns[i], t, List.getElem?_eq_getElem hi, ?_⟩
          rw [e, List.getD_eq_getElem?_getD, List.getElem?_eq_getElem hi] <;> rfl
        unfold Builtin.«set.__init__» noKeywords Builtin.Frozenset.updateFrom
        generalize hPI : pyIter = PI
        wp_walk
        subst hPI
        refine wpAny_pyIter_list hl1 (wpAny_bind (wpAny_runValue ?_))
        have hh3 : A.in1.in1.in1.handled = none := by simp [hh]
        refine set_update_ints ((Walks.list hh3 _ l hneI items).toS) s.heap.objs.size hSf ns hisz hb hval (items.size - 0) 0 _ (by omega) (Nat.zero_le _) ⟨⟨_, Heap.get?_push_size _ rfl, rfl, rfl⟩, (hl1.push _)⟩ ⟨0, Nat.le_refl 0, setR_new_at (Heap.get?_push_of_some _ hS)⟩ fun s' c' hm hc' hS' => ?_
        obtain ⟨h', g2, d', tk', os'⟩ := s'
        have eg : g2 = s.gens := hm.gens
        have ed : d' = s.drawn := hm.drawn
        have eo : os' = s.os := hm.os
        subst eg; subst ed; subst eo
        show wpAny _ _ _ _ _ _
        refine wpAny_pure ?_
        show wpAny _ _ (ret Value.none) _ _ _
        rw [hisz] at hc'
        refine wpAny_pure ⟨rfl, h', tk', c', rfl, hS', hc', fun b o e => ?_⟩
        have hb0 : b < s.heap.objs.size := Heap.lt_size e
        refine hm.heap b o ?_ (Heap.get?_push_of_some _ (Heap.get?_push_of_some _ e))
        rw [hzz]
        simp only [List.mem_cons, List.not_mem_nil, or_false, not_or]
        exact ⟨Nat.ne_of_lt hb0, Nat.ne_of_lt (Nat.lt_succ_of_lt hb0)⟩
      · cases r₂ with
        | error e => exact hr₂
        | ok fl₂ =>
          cases fl₂ with
          | ret r =>
            obtain ⟨rfl, h', tk, c', rfl, hS', hc', hk'⟩ := hr₂
            repeat (any_goals (first | assumption | wp_step))
            exact h _ _ _ hS' hc' hk'
          | _ => exact hr₂.elim
    | _ => exact hr.elim
end
variable {X : Cx} {N : List Str} {sc : Scp} {k : Nat} {E : XK} {B : Bs} {Γ : List Slot}
def rSetOf (K : PySem.W.Frag) (w : World) : List V → Hp → VK → Prop := fun vs H Q => ∃ (l : Addr) (ns : List Int), vs = [.ref l] ∧ SqL K H l (ns.map V.int) ∧ ns.length + 1 < scanBound ∧ ∀ (p : Addr) (c : Nat), H p = none → c ≤ ns.length → Q (.ref p) (upd H p (SetO w p (fun j => decide (j ∈ ns)) c))
theorem cr_setOf (hc : X.calm = true) : CallR X (.type "set") (rSetOf X.K X.w) := by
  intro pins s σ H vs us Q I r h
  obtain ⟨l, ns, rfl, hq, hb, q⟩ := h
  obtain ⟨its, rv, hl, hz⟩ := I.list hq
  rw [Vals.ref1 r]
  refine call_set_ints ns (I.ok.hd hc) hl.isList (by simpa using rv.ints) hb fun h' tk c hS hcl hk => ?_
  exact ⟨.ref s.heap.objs.size, upd H s.heap.objs.size (SetO X.w s.heap.objs.size (fun j => decide (j ∈ ns)) c), I.laid (t' := tk) hk (Nat.le_refl _) (setO_new hS), rfl, q _ c (I.hok.fresh (Nat.le_refl _)) hcl⟩
def setOfO (xs : List Int) : Out (List Int) := if xs.length < 4000 then pure xs else .stuck
/-- set(xs): its members are those of xs -/
theorem wo_setL (C : XC X N sc k E) (Z : Fre X.mg) {e : Expr} {m : Out (List Int)} {p pos : Pos} (h : WE X E B Γ e (rLst tInt) m) (hg : GlN sc "set" := by rfl) (he : starEach (e :: []) X.env = (false, eval e X.env) :: starEach [] X.env := by rfl) :
    WO X E B Γ (.Call (.Name "set" p) [e] [] pos) (oSet X.w) (m >>= setOfO) := by
  refine ctO (R := rLst tInt) C (cr_setOf C.calm) Z.set (by decide +kernel) (fun F H x a Q J s hx po => ?_) h hg (he := he)
  obtain ⟨p, vs, e, q, r⟩ := hx
  have ev := fa2_int r
  subst ev
  unfold setOfO at po
  by_cases c : a.length < 4000
  · rw [if_pos c] at po
    refine ⟨p, a, by rw [e], q, by rw [show scanBound = 4096 from rfl]; omega, fun d n hd hn => ?_⟩
    exact po (.ref d) F _ (fun z => z = d) (Stp.newH s hd) (fun z e => by
      subst e
      exact ⟨s.free hd, (by rw [upd_same]; exact fun z => nomatch z), hd⟩) ⟨d, rfl, rfl, n, by rw [upd_same], hn⟩
  · rw [if_neg c] at po
    exact po.elim
end SL

set_option Elab.async false
set_option linter.all false
set_option maxRecDepth 100000
set_option maxHeartbeats 2000000
/-! SLo: own things that reach further; dicts. -/
namespace SL
open PySem PySem.Spec PyProof.Rows L2
variable {X : Cx} {N : List Str} {sc : Scp} {k : Nat} {E : XK} {B : Bs} {Γ : List Slot}
/-- the own thing of slot i changes as a whole: its addresses are now those of S' -/
theorem env_mut {K : PySem.W.Frag} {Γ : List Slot} {σ : L2.St} {F H H' : Hp} {ω : Ow} {i : Nat} {v : V} (s : Slot) (S' : Addr → Prop) (e : EnvOk K B Γ σ F H ω) (hv : σ[i]? = some (some v))
    (h1 : ∀ p, H p ≠ none → ω p ≠ some i → H' p = H p) (h2 : ∀ p, H p ≠ none → H' p ≠ none) (hS : ∀ p, S' p → F p = none ∧ H' p ≠ none ∧ (ω p = some i ∨ H p = none)) (r : s.ok K F H' S' (some v)) :
    ∃ ω', (∀ p, ω' p = some i ↔ S' p) ∧ EnvOk K B (Γ.set i s) σ F H' ω' := by
  classical
  have hn : ∀ p, ω p = some i → F p = none := fun p hp => (e.own p i hp).1
  have hN : ∀ p, H p = none → ω p = none := fun p hp => by
    cases h : ω p with
    | none => rfl
    | some j => exact absurd hp (e.own p j h).2.1
  have hω : ∀ p, (if S' p then some i else if ω p = some i then none else ω p) = some i ↔ S' p := fun p => by
    by_cases c : S' p
    · simp [c]
    · by_cases c2 : ω p = some i <;> simp [c, c2]
  have hj : ∀ p j, i ≠ j → ((if S' p then some i else if ω p = some i then none else ω p) = some j ↔ ω p = some j) := fun p j hij => by
    by_cases c : S' p
    · simp only [if_pos c]
      constructor
      · exact fun z => absurd (Option.some.inj z) hij
      · intro z
        rcases (hS p c).2.2 with q | q
        · rw [q] at z
          exact absurd (Option.some.inj z) hij
        · rw [hN p q] at z
          cases z
    · simp only [if_neg c]
      by_cases c2 : ω p = some i
      · simp only [if_pos c2, c2]
        exact ⟨(fun z => nomatch z), fun z => absurd (Option.some.inj z) hij⟩
      · simp only [if_neg c2]
  refine ⟨fun p => if S' p then some i else if ω p = some i then none else ω p, hω, ⟨e.base.ff, fun a u h => ?_, fun a u h n => ?_, fun a h => h2 a (e.base.there a h), e.base.old⟩, by rw [List.length_set, e.len], fun p j h => ?_, fun j t h => ?_⟩
  · have hh := e.base.fh a u h
    rw [h1 a (by rw [hh]; exact fun z => nomatch z) (fun z => by rw [hn a z] at h; cases h)]
    exact hh
  · have hh := e.base.hh a u h n
    rw [h1 a (by rw [hh]; exact fun z => nomatch z) (fun z => by
      rcases (e.own a i z).2.2 with q | q
      · rw [q] at h; cases h
      · exact n q)]
    exact hh
  · by_cases hij : i = j
    · subst hij
      obtain ⟨x, y, z⟩ := hS p ((hω p).mp h)
      refine ⟨x, y, ?_⟩
      rcases z with z | z
      · exact (e.own p i z).2.2
      · refine .inl ?_
        cases q : B.H p with
        | none => rfl
        | some o => exact absurd z (e.base.there p (by rw [q]; exact fun z => nomatch z))
    · have h' := (hj p j hij).mp h
      obtain ⟨x, y, z⟩ := e.own p j h'
      exact ⟨x, h2 p y, z⟩
  · by_cases hij : i = j
    · subst hij
      have hi : i < Γ.length := by
        have := (List.getElem?_eq_some_iff.mp h).1
        rwa [List.length_set] at this
      rw [List.getElem?_set_self hi] at h
      cases h
      rw [hv]
      exact slot_iff r hω
    · rw [List.getElem?_set_ne hij] at h
      refine slot_iff (Slot.keep (e.slot j t h) (Same.refl F) fun p hp => h1 p (e.own p j hp).2.1 fun z => ?_) fun p => hj p j hij
      rw [z] at hp
      exact hij (Option.some.inj hp)

/-! ### fixed dicts with int keys -/
abbrev ki (k : Int) : Key := Sum.inl k
inductive FaK {α : Type} (R : V → α → Prop) : List (Key × V) → List (Int × α) → Prop where
  | nil : FaK R [] []
  | cons {k : Int} {v : V} {x : α} {kvs : List (Key × V)} {a : List (Int × α)} : R v x → FaK R kvs a → FaK R ((ki k, v) :: kvs) ((k, x) :: a)
theorem FaK.imp {α : Type} {R R' : V → α → Prop} {kvs : List (Key × V)} {a : List (Int × α)} (h : FaK R kvs a) (f : ∀ v a, R v a → R' v a) : FaK R' kvs a := by
  induction h with
  | nil => exact .nil
  | cons r _ ih => exact .cons (f _ _ r) ih
def tDic {α : Type} (T : Ty α) : Ty (List (Int × α)) := ⟨fun K F v a => ∃ p kvs, v = .ref p ∧ F p = some (.dK kvs) ∧ FaK (T.rel K F) kvs a, fun s ⟨p, kvs, e, q, r⟩ => ⟨p, kvs, e, s _ _ q, r.imp fun _ _ => T.mono s⟩⟩
def dgetO {α : Type} (a : List (Int × α)) (k : Int) : Out α := match a with
  | [] => .stuck
  | (j, x) :: r => if j = k then pure x else dgetO r k
theorem faK_get {α : Type} {R : V → α → Prop} {kvs : List (Key × V)} {a : List (Int × α)} (h : FaK R kvs a) (k : Int) {P : α → Prop} {J : Err → Prop} (q : Post (dgetO a k) P J) : ∃ v x, valV kvs (ki k) = some v ∧ R v x ∧ P x := by
  induction h with
  | nil => exact q.elim
  | @cons j v x kvs a r _ ih =>
    unfold dgetO at q
    by_cases c : j = k
    · rw [if_pos c] at q
      exact ⟨v, x, valV_pos (p := (ki j, v)) (by rw [c]), r, q⟩
    · rw [if_neg c] at q
      obtain ⟨v2, x2, h1, h2, h3⟩ := ih q
      exact ⟨v2, x2, by rw [valV_neg (p := (ki j, v)) (fun z => c (Sum.inl.inj z))]; exact h1, h2, h3⟩
theorem hu1 (C : XC X N sc k E) : X.A.units + 1 < cLine := by have := C.room.un; omega
/-- d[k] -/
theorem we_dget (C : XC X N sc k E) {e1 e2 : Expr} {α : Type} {T : Ty α} {m : Out (List (Int × α))} {mi : Out Int} {pos : Pos} (h1 : WE X E B Γ e1 (tDic T).rl m) (h2 : WE X E B Γ e2 tInt.rl mi) (hs : NoSl e2 := by intro _ _; rfl) :
    WE X E B Γ (.Subscript e1 e2 pos) T.rl (m >>= fun a => mi >>= fun i => dgetO a i) := fun σ F H ω Q en q => by
  refine ⟨_, pe_dget (hu1 C) pe_s pe_s hs, ?_⟩
  refine h1 σ F H ω _ en (q.bind.imp fun a q v F1 H1 s1 r1 => ?_)
  refine h2 σ F1 H1 ω _ (en.stp s1) (q.bind.imp fun i q y F2 H2 s2 ry => ?_)
  obtain ⟨p, kvs, e, hp, r⟩ := r1
  obtain ⟨v, x, g1, g2, g3⟩ := faK_get r i q
  exact ⟨p, v, e, by rw [show y = .int i from ry]; exact .inl ⟨kvs, .inl i, .inl ((s2.fh _ _ (s2.ff _ _ hp))), rfl, g1.symm⟩, g3 v F2 H2 (s1.trans s2) (T.mono s2.ff g2)⟩
end SL

set_option Elab.async false
set_option linter.all false
set_option maxRecDepth 100000
set_option maxHeartbeats 2000000
/-! SLp: a tuple of dicts of lists, that grows (meeting_edges). -/
namespace SL
open PySem PySem.Spec PyProof.Rows L2
variable {X : Cx} {N : List Str} {sc : Scp} {k : Nat} {E : XK} {B : Bs} {Γ : List Slot}
abbrev kvA (A : List (Int × Addr)) : List (Key × V) := A.map fun p => (ki p.1, V.ref p.2)
inductive LL (H : Hp) : List (Int × Addr) → List (Int × List Int) → Prop where
  | nil : LL H [] []
  | cons {j : Int} {l : Addr} {xs : List Int} {A : List (Int × Addr)} {a : List (Int × List Int)} : H l = some (.lst (xs.map V.int)) → LL H A a → LL H ((j, l) :: A) ((j, xs) :: a)
inductive LD (H : Hp) : List (Addr × List (Int × Addr)) → List (List (Int × List Int)) → Prop where
  | nil : LD H [] []
  | cons {q : Addr} {A : List (Int × Addr)} {a : List (Int × List Int)} {L : List (Addr × List (Int × Addr))} {as : List (List (Int × List Int))} : H q = some (.dK (kvA A)) → LL H A a → LD H L as → LD H ((q, A) :: L) (a :: as)
def adrs : List (Addr × List (Int × Addr)) → List Addr
  | [] => []
  | (q, A) :: L => q :: (A.map (·.2) ++ adrs L)
theorem LL.keep {H H' : Hp} {A : List (Int × Addr)} {a : List (Int × List Int)} (h : LL H A a) (k : ∀ x ∈ A.map (·.2), H' x = H x) : LL H' A a := by
  induction h with
  | nil => exact .nil
  | cons e _ ih => exact .cons ((k _ (by simp)).trans e) (ih fun x hx => k x (by simp only [List.map_cons, List.mem_cons]; exact .inr hx))
theorem LD.keep {H H' : Hp} {L : List (Addr × List (Int × Addr))} {as : List (List (Int × List Int))} (h : LD H L as) (k : ∀ x ∈ adrs L, H' x = H x) : LD H' L as := by
  induction h with
  | nil => exact .nil
  | cons e l _ ih => exact .cons ((k _ (by simp [adrs])).trans e) (l.keep fun x hx => k x (by simp only [adrs, List.mem_cons, List.mem_append]; exact .inr (.inl hx))) (ih fun x hx => k x (by simp only [adrs, List.mem_cons, List.mem_append]; exact .inr (.inr hx)))
def oMeet : Own (List (List (Int × List Int))) := ⟨fun K F H S v a => ∃ p L, v = .ref p ∧ H p = some (.tup (L.map fun x => V.ref x.1)) ∧ LD H L a ∧ (p :: adrs L).Nodup ∧ ∀ x ∈ p :: adrs L, S x,
  fun ⟨p, L, e, h, l, n, hs⟩ s k => ⟨p, L, e, by rw [k p (hs p (by simp))]; exact h, l.keep fun x hx => k x (hs x (by simp [hx])), n, hs⟩⟩
theorem fa_dic {K : PySem.W.Frag} {F : Hp} {A : List (Int × Addr)} {a : List (Int × List Int)} (h : LL F A a) : FaK ((tLst tInt).rel K F) (kvA A) a := by
  induction h with
  | nil => exact .nil
  | @cons j l xs A a e _ ih => exact .cons ⟨l, _, rfl, e, int_fa2 xs⟩ ih
theorem fa_meet {K : PySem.W.Frag} {F : Hp} {L : List (Addr × List (Int × Addr))} {as : List (List (Int × List Int))} (h : LD F L as) : Fa2 ((tDic (tLst tInt)).rel K F) (L.map fun x => V.ref x.1) as := by
  induction h with
  | nil => exact .nil
  | @cons q A a L as e l _ ih => exact .cons ⟨q, _, rfl, e, fa_dic l⟩ ih
theorem fz_meet : Fz oMeet (tTup (tDic (tLst tInt))) := fun K F H S v a d ⟨p, L, e, h, l, n, hs⟩ =>
  ⟨p, _, e, SqT.of ((frz_in (hs p (by simp))).trans h), fa_meet (l.keep fun x hx => frz_in (hs x (by simp [hx])))⟩
theorem int_map_inj : ∀ {a b : List Int}, a.map V.int = b.map V.int → a = b
  | [], [], _ => rfl
  | [], _ :: _, h => by cases h
  | _ :: _, [], h => by cases h
  | x :: a, y :: b, h => by
    simp only [List.map_cons, List.cons.injEq, V.int.injEq] at h
    rw [h.1, int_map_inj h.2]
theorem env_any {K : PySem.W.Frag} {Γ : List Slot} {σ : L2.St} {F H : Hp} {ω : Ow} {i : Nat} (e : EnvOk K B Γ σ F H ω) : EnvOk K B (Γ.set i .any) σ F H ω := ⟨e.base, by rw [List.length_set, e.len], e.own, fun j s h => by
  by_cases c : i = j
  · subst c
    by_cases hi : i < Γ.length
    · rw [List.getElem?_set_self hi] at h
      cases h
      trivial
    · rw [List.getElem?_eq_none (by rw [List.length_set]; omega)] at h
      cases h
  · rw [List.getElem?_set_ne c] at h
    exact e.slot j s h⟩
/-! ### growing -/
def addTo : List (Int × List Int) → Int → Int → List (Int × List Int)
  | [], k, n => [(k, [n])]
  | (j, xs) :: r, k, n => if j = k then (j, xs ++ [n]) :: r else (j, xs) :: addTo r k n
/-- the list at key k, or none -/
theorem ll_find {H : Hp} (k n : Int) {A : List (Int × Addr)} {a : List (Int × List Int)} (h : LL H A a) :
    (valV (kvA A) (ki k) = none ∧ ∀ (D : Addr) (H' : Hp), H' D = some (.lst ([n].map V.int)) → (∀ x ∈ A.map (·.2), H' x = H x) → LL H' (A ++ [(k, D)]) (addTo a k n)) ∨
    ∃ l xs, valV (kvA A) (ki k) = some (.ref l) ∧ H l = some (.lst (xs.map V.int)) ∧ l ∈ A.map (·.2) ∧ (∃ p ∈ a, p.2 = xs) ∧ ∀ H' : Hp, H' l = some (.lst ((xs ++ [n]).map V.int)) → (∀ x ∈ A.map (·.2), x ≠ l → H' x = H x) → (A.map (·.2)).Nodup → LL H' A (addTo a k n) := by
  induction h with
  | nil => exact .inl ⟨rfl, fun D H' hD _ => .cons hD .nil⟩
  | @cons j l xs A a e hr ih =>
    by_cases c : j = k
    · subst c
      refine .inr ⟨l, xs, valV_pos (p := (ki j, V.ref l)) rfl, e, by simp, ⟨_, List.mem_cons_self, rfl⟩, fun H' h1 h2 hn => ?_⟩
      unfold addTo
      rw [if_pos rfl]
      simp only [List.map_cons, List.nodup_cons] at hn
      exact .cons h1 (hr.keep fun x hx => h2 x (by simp only [List.map_cons, List.mem_cons]; exact .inr hx) fun z => hn.1 (z ▸ hx))
    · have hv : valV (kvA ((j, l) :: A)) (ki k) = valV (kvA A) (ki k) := valV_neg (p := (ki j, V.ref l)) fun z => c (Sum.inl.inj z)
      rw [hv]
      have ea : addTo ((j, xs) :: a) k n = (j, xs) :: addTo a k n := by
        rw [addTo, if_neg c]
      rw [ea]
      rcases ih with ⟨h1, h2⟩ | ⟨l2, xs2, h1, h2, h3, ⟨p, hp, hp2⟩, h4⟩
      · refine .inl ⟨h1, fun D H' hD hk => ?_⟩
        exact .cons ((hk l (by simp)).trans e) (h2 D H' hD fun x hx => hk x (by simp only [List.map_cons, List.mem_cons]; exact .inr hx))
      · refine .inr ⟨l2, xs2, h1, h2, by simp only [List.map_cons, List.mem_cons]; exact .inr h3, ⟨p, List.mem_cons_of_mem _ hp, hp2⟩, fun H' g1 g2 hn => ?_⟩
        simp only [List.map_cons, List.nodup_cons] at hn
        exact .cons ((g2 l (by simp) fun z => hn.1 (z ▸ h3)).trans e) (h4 H' g1 (fun x hx => g2 x (by simp only [List.map_cons, List.mem_cons]; exact .inr hx)) hn.2)
/-- the dict at index i -/
theorem ld_at {H : Hp} {L : List (Addr × List (Int × Addr))} {as : List (List (Int × List Int))} (h : LD H L as) : ∀ {i : Nat} {a : List (Int × List Int)}, as[i]? = some a → ∃ q A, L[i]? = some (q, A) ∧ H q = some (.dK (kvA A)) ∧ LL H A a ∧ q ∈ adrs L ∧ (∀ x ∈ A.map (·.2), x ∈ adrs L ∧ ((adrs L).Nodup → x ≠ q)) ∧ ((adrs L).Nodup → (A.map (·.2)).Nodup) ∧
    (∀ H' A' a', H' q = some (.dK (kvA A')) → LL H' A' a' → (∀ x ∈ adrs L, x ≠ q → x ∉ A.map (·.2) → H' x = H x) → (adrs L).Nodup → LD H' (L.set i (q, A')) (as.set i a')) ∧
    (∀ A', (L.set i (q, A')).map (fun x => V.ref x.1) = L.map fun x => V.ref x.1) ∧ ∀ k D, (adrs (L.set i (q, A ++ [(k, D)]))).Perm (D :: adrs L) := by
  induction h with
  | nil => intro i a e; simp at e
  | @cons q A a0 L as e l hr ih =>
    intro i a ea
    cases i with
    | zero =>
      simp at ea
      subst ea
      refine ⟨q, A, rfl, e, l, by simp [adrs], fun x hx => ⟨by simp only [adrs, List.mem_cons, List.mem_append]; exact .inr (.inl hx), fun n z => ?_⟩, fun n => ?_, fun H' A' a' h1 h2 h3 n => ?_, fun A' => rfl, fun k D => ?_⟩
      · simp only [adrs, List.nodup_cons, List.mem_append, not_or] at n
        exact n.1.1 (z ▸ hx)
      · simp only [adrs, List.nodup_cons] at n
        exact (List.nodup_append.mp n.2).1
      · simp only [adrs, List.nodup_cons, List.mem_append, not_or] at n
        refine .cons h1 h2 (hr.keep fun x hx => h3 x (by simp only [adrs, List.mem_cons, List.mem_append]; exact .inr (.inr hx)) (fun z => n.1.2 (z ▸ hx)) fun z => ?_)
        exact (List.nodup_append.mp n.2).2.2 x z x hx rfl
      · show (q :: ((A ++ [(k, D)]).map (·.2) ++ adrs L)).Perm (D :: q :: (A.map (·.2) ++ adrs L))
        rw [List.map_append, List.append_assoc]
        refine (List.Perm.cons q ?_).trans (List.Perm.swap D q _)
        exact List.perm_middle
    | succ i =>
      obtain ⟨q1, A1, g1, g2, g3, g4, g5, g6, g7, g8, g9⟩ := ih (i := i) (a := a) (by simpa using ea)
      have hq : ∀ {x : Addr}, x ∈ adrs L → x ∈ adrs ((q, A) :: L) := fun {x} hx => by simp only [adrs, List.mem_cons, List.mem_append]; exact .inr (.inr hx)
      have hn : (adrs ((q, A) :: L)).Nodup → (adrs L).Nodup := fun n => by
        simp only [adrs, List.nodup_cons] at n
        exact (List.nodup_append.mp n.2).2.1
      refine ⟨q1, A1, by simpa using g1, g2, g3, hq g4, fun x hx => ⟨hq (g5 x hx).1, fun n => (g5 x hx).2 (hn n)⟩, fun n => g6 (hn n), fun H' A' a' h1 h2 h3 n => ?_, fun A' => by simp only [List.set_cons_succ, List.map_cons, g8], fun k D => ?_⟩
      · have n2 := hn n
        simp only [adrs, List.nodup_cons, List.mem_append, not_or] at n
        have nd := (List.nodup_append.mp n.2).2.2
        simp only [List.set_cons_succ]
        refine .cons ((h3 q (by simp [adrs]) (fun z => n.1.2 (z ▸ g4)) fun z => n.1.2 (g5 q z).1).trans e) (l.keep fun x hx => h3 x (by simp only [adrs, List.mem_cons, List.mem_append]; exact .inr (.inl hx)) (fun z => nd x hx x (z ▸ g4) rfl) fun z => nd x hx x (g5 x z).1 rfl) ?_
        exact g7 H' A' a' h1 h2 (fun x hx => h3 x (hq hx)) n2
      · simp only [List.set_cons_succ, adrs]
        have p1 := g9 k D
        refine (List.Perm.cons q ((List.Perm.append_left _ p1).trans List.perm_middle)).trans (List.Perm.swap D q _)
/-- the index s, where nothing is too long -/
def meetG (xs : List (List (Int × List Int))) (s : Int) : Out Nat := match ixN xs.length s with
  | some j => if ∀ a ∈ xs, a.length < 16777216 ∧ ∀ p ∈ a, p.2.length < 16777216 then pure j else .stuck
  | none => .stuck
def meetS (xs : List (List (Int × List Int))) (j : Nat) (k n : Int) : List (List (Int × List Int)) := xs.set j (addTo (xs[j]?.getD []) k n)
theorem meetG_ok {xs : List (List (Int × List Int))} {s : Int} {P : Nat → Prop} {J : Err → Prop} (h : Post (meetG xs s) P J) : ∃ j, ixN xs.length s = some j ∧ (∀ a ∈ xs, a.length < 16777216 ∧ ∀ p ∈ a, p.2.length < 16777216) ∧ P j := by
  unfold meetG at h
  cases hj : ixN xs.length s with
  | none => rw [hj] at h; exact h.elim
  | some j =>
    rw [hj] at h
    by_cases c : ∀ a ∈ xs, a.length < 16777216 ∧ ∀ p ∈ a, p.2.length < 16777216
    · exact ⟨j, rfl, c, by simp only [if_pos c] at h; exact h⟩
    · simp only [if_neg c] at h
      exact h.elim
theorem ll_len {H : Hp} {A : List (Int × Addr)} {a : List (Int × List Int)} (h : LL H A a) : A.length = a.length := by
  induction h with
  | nil => rfl
  | cons _ _ ih => simp [ih]
theorem ld_len {H : Hp} {L : List (Addr × List (Int × Addr))} {a : List (List (Int × List Int))} (h : LD H L a) : L.length = a.length := by
  induction h with
  | nil => rfl
  | cons _ _ _ ih => simp [ih]
/-- x[s].setdefault(k, []).append(n) -/
theorem ws_meet {β : Type} {D : β → SOut} {b : List Stmt} {bs : List (List Stmt)} {x : Str} {p p2 p3 p4 p5 p6 p7 pos : Pos} {es ek en : Expr} {xs : List (List (Int × List Int))} {ms mk mn : Out Int} {f : List (List (Int × List Int)) → Out β} (C : XC X N sc k E) (i : Nat)
    (hs : WE X E B Γ es tInt.rl ms) (hk : WE X E B Γ ek tInt.rl mk) (hn : WE X E B (Γ.set i .any) en tInt.rl mn) (hr : ∀ a, WS X E B (Γ.set i (.on _ oMeet a)) (b :: bs) (f a) D)
    (hΓ : Γ[i]? = some (.on _ oMeet xs) := by rfl) (hN : N[i]? = some x := by rfl) (hv : Vis sc.sc x := by first | exact Or.inl rfl | exact Or.inr (Or.inl rfl) | exact Or.inr (Or.inr rfl))
    (hd : (x == ("__debug__" : Str)) = false := by decide) (hcd : (x == ("__classdict__" : Str)) = false := by decide) (hpi : PlainIx es := by intro _ _; rfl)
    (hM : M2 X (.Subscript (.Name x p) es p2) "setdefault" p3 ek (.List [] p4) p5 := by exact ⟨rfl, rfl, rfl, rfl⟩)
    (hbase : attributeBase (.Call (.Attribute (.Subscript (.Name x p) es p2) "setdefault" p3) [ek, .List [] p4] [] p5) "append" X.env (eval (.Call (.Attribute (.Subscript (.Name x p) es p2) "setdefault" p3) [ek, .List [] p4] [] p5) X.env) = eval (.Call (.Attribute (.Subscript (.Name x p) es p2) "setdefault" p3) [ek, .List [] p4] [] p5) X.env := by rfl)
    (hfew : ((backTo p7 (starEach (en :: []) X.env)).all (fun x => !x.1) && (backToKw p7 (keywordEach [] X.env)).all (fun x => x.1.isSome) && decide ((en :: []).length + ([] : List Keyword).length + (if ([] : List Keyword).isEmpty then 0 else 1) < 30)) = true := by rfl)
    (hline : (p6.endLine == p7.line) = true := by rfl) (hst : starEach (en :: []) X.env = (false, eval en X.env) :: starEach [] X.env := by rfl) (hsw : swapsWith (.Call (.Attribute (.Call (.Attribute (.Subscript (.Name x p) es p2) "setdefault" p3) [ek, .List [] p4] [] p5) "append" p6) [en] [] p7) none pos.line X.env = pure false := by rfl) :
    WS X E B Γ ((.Expr (.Call (.Attribute (.Call (.Attribute (.Subscript (.Name x p) es p2) "setdefault" p3) [ek, .List [] p4] [] p5) "append" p6) [en] [] p7) pos :: b) :: bs) (ms >>= fun s => meetG xs s >>= fun j => mk >>= fun kk => mn >>= fun n => pure (meetS xs j kk n) >>= f) D := fun σ F H ω En env q => by
  refine sK_cons ⟨_, ps_expr (pe_bm PySem.F.plainAttrs_list PySem.F.slot_list_append PySem.F.type_list_append mt_append (pe_dsetd (pe_ix ix_tup (pv_ C hN hv hd hcd) pe_s hpi) pe_s (pe_lst pa_nil) hM) (pa_cons pe_s pa_nil hst) hbase hfew hline hst) hsw, ?_⟩
  obtain ⟨v, hσ, pp, L, rfl, hp, hl, hnd, hS⟩ := env.slot i _ hΓ
  have hσ := join_some hσ
  have hnd2 : (adrs L).Nodup := (List.nodup_cons.mp hnd).2
  have hpn : pp ∉ adrs L := (List.nodup_cons.mp hnd).1
  refine ⟨_, hσ, hs σ F H ω _ env (q.bind.imp fun s q v1 F1 H1 s1 r1 => ?_)⟩
  have env1 := env.stp s1
  obtain ⟨j, hj, hlen, q⟩ := meetG_ok q.bind
  have hjx : j < xs.length := (ixN_seq hj).2.1
  have hg : xs[j]? = some xs[j] := List.getElem?_eq_getElem hjx
  obtain ⟨dq, A, g1, g2, g3, g4, g5, g6, g7, g8, g9⟩ := ld_at hl hg
  have hH1 : ∀ y, ω y = some i → H1 y = H y := fun y hy => same_at s1.hh (env.own y i hy).2.1
  have hSH : ∀ y ∈ pp :: adrs L, H1 y = H y := fun y hy => hH1 y (hS y hy)
  have hp1 : H1 pp = some (.tup (L.map fun x => V.ref x.1)) := (hSH pp (by simp)).trans hp
  refine ⟨pp, _, s, .ref dq, rfl, r1, SqT.of hp1, ?_, ?_⟩
  · unfold atI
    rw [List.length_map, ld_len hl, hj]
    show (L.map fun x => V.ref x.1)[j]? = some (V.ref dq)
    rw [List.getElem?_map, g1]
    rfl
  have hd1 : H1 dq = some (.dK (kvA A)) := (hSH dq (by simp [g4])).trans g2
  refine ⟨dq, rfl, .inl ⟨_, .inl hd1⟩, hk σ F1 H1 ω _ env1 (q.bind.imp fun kk q y F2 H2 s2 ry => ⟨le_line (by simp), fun D hD => ?_⟩)⟩
  have env2 := env1.stp s2
  have hSH2 : ∀ y ∈ pp :: adrs L, H2 y = H y := fun y hy => (same_at s2.hh (env1.own y i (hS y hy)).2.1).trans (hSH y hy)
  have hDn : ∀ y ∈ pp :: adrs L, y ≠ D := fun y hy z => (env2.own y i (hS y hy)).2.1 (z ▸ hD)
  have hωD : ω D = none := by
    cases h : ω D with
    | none => rfl
    | some j => exact absurd hD (env2.own D j h).2.1
  have hBD : B.H D = none := by
    cases h : B.H D with
    | none => rfl
    | some o => exact absurd hD (env2.base.there D (by rw [h]; exact fun z => nomatch z))
  have hFD : F2 D = none := s2.fh.free hD
  have env3 : EnvOk X.K B Γ σ F2 (upd H2 D (.lst [])) ω := env_updN env2 hωD hBD hFD
  have hd3 : upd H2 D (.lst []) dq = some (.dK (kvA A)) := by rw [upd_ne (hDn dq (by simp [g4])), hSH2 dq (by simp [g4])]; exact g2
  have hkl : (kvA A).length < sizeLine := by
    have h := (hlen _ (List.getElem_mem hjx)).1
    rw [List.length_map, ll_len g3, sizeLine_eq]
    exact h
  refine ⟨_, ki kk, hd3, ry, hkl, ?_, ?_⟩
  · -- the key is there
    intro v hv
    have hset : L.set j (dq, A) = L := by
      refine List.ext_getElem? fun m => ?_
      by_cases c : j = m
      · subst c
        rw [List.getElem?_set_self (List.getElem?_eq_some_iff.mp g1).1, g1]
      · rw [List.getElem?_set_ne c]
    have hex : ∃ (l : Addr) (vs : List Int), v = .ref l ∧ H l = some (.lst (vs.map V.int)) ∧ l ∈ A.map (·.2) ∧ vs.length < 16777216 := by
      rcases ll_find kk 0 g3 with ⟨h1, _⟩ | ⟨l, vs, h1, h2, h3, ⟨pq, hpq, hpq2⟩, _⟩
      · rw [h1] at hv; cases hv
      · rw [h1] at hv
        cases hv
        exact ⟨l, vs, rfl, h2, h3, by rw [← hpq2]; exact (hlen _ (List.getElem_mem hjx)).2 _ hpq⟩
    obtain ⟨l, vs, rfl, h2, h3, h5⟩ := hex
    have hlL : l ∈ adrs L := (g5 l h3).1
    have hl3 : upd H2 D (.lst []) l = some (.lst (vs.map V.int)) := by rw [upd_ne (hDn l (by simp [hlL])), hSH2 l (by simp [hlL])]; exact h2
    refine ⟨.inl ⟨rfl, _, SqL.of hl3⟩, hn σ F2 _ ω _ (env_any env3) (q.bind.imp fun n q y2 F4 H4 s4 ry2 => ?_)⟩
    have env4 := env3.stp s4
    have hSH4 : ∀ y ∈ pp :: adrs L, H4 y = H y := fun y hy => by
      rw [same_at s4.hh (env3.own y i (hS y hy)).2.1, upd_ne (hDn y hy), hSH2 y hy]
    have h4 : ∀ H' : Hp, H' l = some (.lst ((vs ++ [n]).map V.int)) → (∀ x ∈ A.map (·.2), x ≠ l → H' x = H x) → (A.map (·.2)).Nodup → LL H' A (addTo xs[j] kk n) := by
      rcases ll_find kk n g3 with ⟨h1, _⟩ | ⟨l', vs', h1, h2', h3', _, h4⟩
      · rw [h1] at hv; cases hv
      · rw [h1] at hv
        cases hv
        rw [h2] at h2'
        have ev : vs' = vs := by
          have := (HO.lst.inj (Option.some.inj h2'))
          exact (int_map_inj this).symm
        subst ev
        exact h4
    have e2 : y2 = .int n := ry2
    refine ⟨l, vs.map V.int, y2, rfl, rfl, (hSH4 l (by simp [hlL])).trans h2, by rw [List.length_map, sizeLine_eq]; exact h5, ?_⟩
    have H5 : upd H4 l (.lst (vs.map V.int ++ [y2])) l = some (.lst ((vs ++ [n]).map V.int)) := by rw [upd_same, e2, List.map_append] <;> rfl
    have keep5 : ∀ x, x ≠ l → upd H4 l (.lst (vs.map V.int ++ [y2])) x = H4 x := fun x hx => upd_ne hx
    obtain ⟨ω', _, env5⟩ := env_mut (.on _ oMeet (meetS xs j kk n)) (fun p => ω p = some i) env4 hσ (H' := upd H4 l (.lst (vs.map V.int ++ [y2]))) (fun p _ hp => keep5 p fun z => hp (z ▸ hS l (by simp [hlL]))) (fun p hp => by
        by_cases c : p = l
        · rw [c, H5]; exact fun z => nomatch z
        · rw [keep5 p c]; exact hp) (fun p hp => ⟨(env4.own p i hp).1, by
        by_cases c : p = l
        · rw [c, H5]; exact fun z => nomatch z
        · rw [keep5 p c]; exact (env4.own p i hp).2.1, .inl hp⟩) (by
        refine ⟨_, rfl, pp, L, rfl, ?_, ?_, hnd, hS⟩
        · rw [keep5 pp (fun z => hpn (z ▸ hlL)), hSH4 pp (by simp)]; exact hp
        · have := g7 (upd H4 l (.lst (vs.map V.int ++ [y2]))) A (addTo xs[j] kk n) (by rw [keep5 dq (fun z => (g5 l h3).2 hnd2 z.symm), hSH4 dq (by simp [g4])]; exact g2)
            (h4 _ H5 (fun x hx hxl => by rw [keep5 x hxl]; exact hSH4 x (by simp [(g5 x hx).1])) (g6 hnd2)) (fun x hx hxq hxA => by rw [keep5 x (fun z => hxA (z ▸ h3))]; exact hSH4 x (by simp [hx])) hnd2
          rw [hset] at this
          unfold meetS
          rw [hg]
          exact this)
    exact hr _ σ F4 _ ω' En env5 (Post.imp q fun b z => EndOk.up z ((s1.ff.trans s2.ff).trans s4.ff))
  · -- a new key
    intro hv
    have h4 : ∀ n (D : Addr) (H' : Hp), H' D = some (.lst ([n].map V.int)) → (∀ x ∈ A.map (·.2), H' x = H x) → LL H' (A ++ [(kk, D)]) (addTo xs[j] kk n) := fun n => by
      rcases ll_find kk n g3 with ⟨_, h2⟩ | ⟨l, vs, h1, _⟩
      · exact h2
      · rw [h1] at hv; cases hv
    have hput : putK (kvA A) (ki kk) (V.ref D) = kvA (A ++ [(kk, D)]) := by
      rw [putK_new _ hv]
      simp [kvA]
    rw [hput]
    have hdD : dq ≠ D := hDn dq (by simp [g4])
    have hD3 : upd (upd H2 D (.lst [])) dq (.dK (kvA (A ++ [(kk, D)]))) D = some (.lst []) := by rw [upd_ne hdD.symm, upd_same]
    have keep3 : ∀ x, x ≠ dq → upd (upd H2 D (.lst [])) dq (.dK (kvA (A ++ [(kk, D)]))) x = upd H2 D (.lst []) x := fun x hx => upd_ne hx
    obtain ⟨ω3, hω3, env3'⟩ := env_mut .any (fun p => ω p = some i ∨ p = D) env2 hσ (H' := upd (upd H2 D (.lst [])) dq (.dK (kvA (A ++ [(kk, D)])))) (fun p hp hp2 => by
        rw [keep3 p (fun z => hp2 (z ▸ hS dq (by simp [g4]))), upd_ne (fun z : p = D => hp (by rw [z]; exact hD))]) (fun p hp => by
        by_cases c : p = dq
        · rw [c, upd_same]; exact fun z => nomatch z
        · rw [keep3 p c, upd_ne (fun z : p = D => hp (by rw [z]; exact hD))]; exact hp) (fun p hp => by
        rcases hp with hp | hp
        · refine ⟨(env2.own p i hp).1, ?_, .inl hp⟩
          by_cases c : p = dq
          · rw [c, upd_same]; exact fun z => nomatch z
          · rw [keep3 p c]
            exact (env3.own p i hp).2.1
        · subst hp
          exact ⟨hFD, (by rw [hD3]; exact fun z => nomatch z), .inr hD⟩) trivial
    refine ⟨.inl ⟨rfl, [], SqL.of hD3⟩, hn σ F2 _ ω3 _ env3' (q.bind.imp fun n q y2 F4 H4 s4 ry2 => ?_)⟩
    have env4 := env3'.stp s4
    have e2 : y2 = .int n := ry2
    have ho3 : ∀ p, (ω p = some i ∨ p = D) → H4 p = upd (upd H2 D (.lst [])) dq (.dK (kvA (A ++ [(kk, D)]))) p := fun p hp => same_at s4.hh (env3'.own p i ((hω3 p).mpr hp)).2.1
    have hD4 : H4 D = some (.lst []) := (ho3 D (.inr rfl)).trans hD3
    have hSH4 : ∀ y ∈ pp :: adrs L, y ≠ dq → H4 y = H y := fun y hy hq => by rw [ho3 y (.inl (hS y hy)), keep3 y hq, upd_ne (hDn y hy), hSH2 y hy]
    refine ⟨D, [], y2, rfl, rfl, hD4, by rw [sizeLine_eq]; simp, ?_⟩
    have H5 : upd H4 D (.lst ([] ++ [y2])) D = some (.lst ([n].map V.int)) := by rw [upd_same, e2] <;> rfl
    have keep5 : ∀ x, x ≠ D → upd H4 D (.lst ([] ++ [y2])) x = H4 x := fun x hx => upd_ne hx
    obtain ⟨ω', _, env5⟩ := env_mut (.on _ oMeet (meetS xs j kk n)) (fun p => ω p = some i ∨ p = D) env4 hσ (H' := upd H4 D (.lst ([] ++ [y2]))) (fun p _ hp => keep5 p fun z => hp ((hω3 p).mpr (.inr z))) (fun p hp => by
        by_cases c : p = D
        · rw [c, H5]; exact fun z => nomatch z
        · rw [keep5 p c]; exact hp) (fun p hp => by
        have hp' := (hω3 p).mpr hp
        refine ⟨(env4.own p i hp').1, ?_, .inl hp'⟩
        by_cases c : p = D
        · rw [c, H5]; exact fun z => nomatch z
        · rw [keep5 p c]; exact (env4.own p i hp').2.1) (by
        have hpm := g9 kk D
        refine ⟨_, rfl, pp, L.set j (dq, A ++ [(kk, D)]), rfl, ?_, ?_, ?_, fun x hx => ?_⟩
        · rw [keep5 pp (hDn pp (by simp)), hSH4 pp (by simp) (fun z => hpn (z ▸ g4)), g8]; exact hp
        · have := g7 (upd H4 D (.lst ([] ++ [y2]))) (A ++ [(kk, D)]) (addTo xs[j] kk n) (by rw [keep5 dq hdD, ho3 dq (.inl (hS dq (by simp [g4]))), upd_same])
            (h4 n D _ H5 (fun x hx => by rw [keep5 x (hDn x (by simp [(g5 x hx).1]))]; exact hSH4 x (by simp [(g5 x hx).1]) ((g5 x hx).2 hnd2))) (fun x hx hxq hxA => by rw [keep5 x (hDn x (by simp [hx]))]; exact hSH4 x (by simp [hx]) hxq) hnd2
          unfold meetS
          rw [hg]
          exact this
        · refine (List.Perm.cons pp hpm).nodup_iff.mpr ?_
          refine List.nodup_cons.mpr ⟨fun z => ?_, List.nodup_cons.mpr ⟨fun z => hDn D (by simp [z]) rfl, hnd2⟩⟩
          rcases List.mem_cons.mp z with z | z
          · exact hDn pp (by simp) z
          · exact hpn z
        · rcases List.mem_cons.mp hx with z | z
          · exact .inl (hS x (by simp [z]))
          · rcases List.mem_cons.mp (hpm.mem_iff.mp z) with z | z
            · exact .inr z
            · exact .inl (hS x (by simp [z])))
    rw [List.set_set] at env5
    exact hr _ σ F4 _ ω' En env5 (Post.imp q fun b z => EndOk.up z ((s1.ff.trans s2.ff).trans s4.ff))
/-- ({}, {}) -/
theorem wo_meet0 {p1 p2 pos : Pos} {j : Nat} (h1 : starEach (.Dict [] [] p1 :: .Dict [] [] p2 :: []) X.env = (false, eval (.Dict [] [] p1) X.env) :: starEach (.Dict [] [] p2 :: []) X.env := by rfl) (h2 : starEach (.Dict [] [] p2 :: []) X.env = (false, eval (.Dict [] [] p2) X.env) :: starEach [] X.env := by rfl) :
    WO X E B Γ (.Tuple [.Dict [] [] p1, .Dict [] [] p2] j pos) oMeet (pure [[], []]) := fun σ F H ω Q en q => by
  refine ⟨_, pe_tup (pa_cons pe_dnewK (pa_cons pe_dnewK pa_nil h2) h1), fun q0 hq0 q1 hq1 => ⟨le_line (by simp), fun p hp => ?_⟩⟩
  have n01 : q1 ≠ q0 := fun z => by rw [z, upd_same] at hq1; cases hq1
  have hq1' : H q1 = none := by rw [upd_ne n01] at hq1; exact hq1
  have np1 : p ≠ q1 := fun z => by rw [z, upd_same] at hp; cases hp
  have np0 : p ≠ q0 := fun z => by rw [z, upd_ne n01.symm, upd_same] at hp; cases hp
  have hp' : H p = none := by rw [upd_ne np1, upd_ne np0] at hp; exact hp
  have s1 := Stp.newH (o := .dK []) en.fh hq0
  have s2 := s1.trans (Stp.newH (o := .dK []) s1.fh hq1)
  have s3 := s2.trans (Stp.newH (o := .tup [.ref q0, .ref q1]) s2.fh hp)
  have a0 : upd (upd (upd H q0 (.dK [])) q1 (.dK [])) p (.tup [.ref q0, .ref q1]) q0 = some (.dK []) := by rw [upd_ne np0.symm, upd_ne n01.symm, upd_same]
  have a1 : upd (upd (upd H q0 (.dK [])) q1 (.dK [])) p (.tup [.ref q0, .ref q1]) q1 = some (.dK []) := by rw [upd_ne np1.symm, upd_same]
  refine q (.ref p) F _ (fun x => x = p ∨ x = q0 ∨ x = q1) s3 (fun x hx => ?_) ⟨p, [(q0, []), (q1, [])], rfl, upd_same, .cons a0 .nil (.cons a1 .nil .nil), ?_, fun x hx => ?_⟩
  · rcases hx with rfl | rfl | rfl
    · exact ⟨en.fh.free hp', (by rw [upd_same]; exact fun z => nomatch z), hp'⟩
    · exact ⟨en.fh.free hq0, (by rw [a0]; exact fun z => nomatch z), hq0⟩
    · exact ⟨en.fh.free hq1', (by rw [a1]; exact fun z => nomatch z), hq1'⟩
  · simp [adrs, np0, np1, n01.symm]
  · simpa [adrs] using hx
end SL

set_option Elab.async false
set_option linter.all false
set_option maxRecDepth 100000
set_option maxHeartbeats 2000000
/-! SLq: frozen data. -/
namespace SL
open PySem PySem.Spec PyProof.Rows L2
variable {X : Cx} {N : List Str} {sc : Scp} {k : Nat} {E : XK} {B : Bs} {Γ : List Slot}
mutual
/-- all lists are tuples -/
def frzD : PyData → PyData
  | .list xs => .tuple (frzDs xs)
  | .tuple xs => .tuple (frzDs xs)
  | d => d
def frzDs : List PyData → List PyData
  | [] => []
  | x :: xs => frzD x :: frzDs xs
end
theorem frzDs_map (xs : List PyData) : frzDs xs = xs.map frzD := by
  induction xs with
  | nil => rfl
  | cons x xs ih => rw [frzDs, ih]; rfl
/-- data of depth n at most -/
def tDn (n : Nat) : Ty PyData := ⟨fun K F v a => Dp K F v a ∧ a.depth ≤ n, fun s h => ⟨dp_mono s h.1, h.2⟩⟩
theorem fa_dn {K : PySem.W.Frag} {F : Hp} {n : Nat} : ∀ {xs : List PyData} {vs : List V}, DpAll K F vs xs → PyData.depthAll xs ≤ n → Fa2 ((tDn n).rel K F) vs xs
  | [], _, h, _ => by cases h; exact .nil
  | x :: xs, _, h, hd => by
    cases h with
    | cons h1 h2 =>
      simp only [PyData.depthAll] at hd
      exact .cons ⟨h1, by omega⟩ (fa_dn h2 (by omega))
theorem dn_list {K : PySem.W.Frag} {F : Hp} {n : Nat} {v : V} {xs : List PyData} (h : (tDn n).rel K F v (.list xs)) : ∃ m, n = m + 1 ∧ (tLstQ (tDn m)).rel K F v xs := by
  obtain ⟨h, hd⟩ := h
  simp only [PyData.depth] at hd
  refine ⟨n - 1, by omega, ?_⟩
  cases h with
  | lst q r => exact ⟨_, _, rfl, q, fa_dn r (by omega)⟩
theorem dn_tuple {K : PySem.W.Frag} {F : Hp} {n : Nat} {v : V} {xs : List PyData} (h : (tDn n).rel K F v (.tuple xs)) : ∃ m, n = m + 1 ∧ (tTup (tDn m)).rel K F v xs := by
  obtain ⟨h, hd⟩ := h
  simp only [PyData.depth] at hd
  refine ⟨n - 1, by omega, ?_⟩
  cases h with
  | tup q r => exact ⟨_, _, rfl, q, fa_dn r (by omega)⟩
theorem depth_list {xs : List PyData} {n : Nat} (h : (PyData.list xs).depth ≤ n) : ∃ m, n = m + 1 := ⟨n - 1, by simp only [PyData.depth] at h; omega⟩
theorem depth_tuple {xs : List PyData} {n : Nat} (h : (PyData.tuple xs).depth ≤ n) : ∃ m, n = m + 1 := ⟨n - 1, by simp only [PyData.depth] at h; omega⟩
/-- a slot's fact told otherwise -/
theorem ws_conv (i : Nat) {β : Type} {D : β → SOut} {bs : List (List Stmt)} {m : Out β} {α γ : Type} {T : Ty α} {U : Ty γ} {a : α} {b : γ} (h : ∀ K F v, T.rel K F v a → U.rel K F v b) (hΓ : Γ[i]? = some (iS T a)) (hr : WS X E B (Γ.set i (iS U b)) bs m D) : WS X E B Γ bs m D := fun σ F H ω En en q => by
  refine hr σ F H ω En ⟨en.base, by rw [List.length_set, en.len], en.own, fun j s hj => ?_⟩ q
  by_cases c : i = j
  · subst c
    rw [List.getElem?_set_self (List.getElem?_eq_some_iff.mp hΓ).1] at hj
    cases hj
    obtain ⟨v, e, r⟩ := en.slot i _ hΓ
    exact ⟨v, e, h _ _ _ r⟩
  · rw [List.getElem?_set_ne c] at hj
    exact en.slot j s hj
/-- what a slot's data promise -/
theorem ws_have (i : Nat) {β : Type} {D : β → SOut} {bs : List (List Stmt)} {m : Out β} {α : Type} {T : Ty α} {a : α} {P : Prop} (h : ∀ K F v, T.rel K F v a → P) (hΓ : Γ[i]? = some (iS T a)) (hr : P → WS X E B Γ bs m D) : WS X E B Γ bs m D := fun σ F H ω En en q => by
  obtain ⟨v, e, r⟩ := en.slot i _ hΓ
  exact hr (h _ _ _ r) σ F H ω En en q
theorem mapO_pure {α β : Type} (f : α → β) : ∀ xs : List α, mapO (fun x => pure (f x)) xs = pure (xs.map f)
  | [] => rfl
  | x :: xs => by
    unfold mapO
    rw [mapO_pure f xs]
    rfl
theorem dp_D : DpT tD (fun d => d) := fun K F v a h => h
theorem dp_dn {n : Nat} : DpT (tDn n) (fun d => d) := fun K F v a h => h.1
theorem tupD {K : PySem.W.Frag} {F : Hp} {v : V} {a : List PyData} (h : (tTup tD).rel K F v a) : tD.rel K F v (.tuple a) := by
  have := dp_tup dp_D K F v a h
  simp only [List.map_id'] at this
  exact this
/-- where the data are of a form -/
theorem WE.as {e : Expr} {α β : Type} {T : Ty α} {U : Ty β} {m : Out α} {f : α → Out β} (h : WE X E B Γ e T.rl m) (hf : ∀ a b, f a = .ok b → ∀ K F v, T.rel K F v a → U.rel K F v b) (he : ∀ a x, f a ≠ .err x) : WE X E B Γ e U.rl (m >>= f) := fun σ F H ω Q en q =>
  h σ F H ω Q en (q.bind.imp fun a q v F' H' s r => by
    cases e : f a with
    | ok b => rw [e] at q; exact q v F' H' s (hf a b e _ _ _ r)
    | err x => exact absurd e (he a x)
    | stuck => rw [e] at q; exact q.elim)
/-- data that are ints -/
def asInt : PyData → Out Int
  | .int i => pure i
  | _ => .stuck
def asAll {α : Type} (f : PyData → Out α) : List PyData → Out (List α)
  | [] => pure []
  | x :: xs => match f x, asAll f xs with
    | .ok a, .ok as => .ok (a :: as)
    | _, _ => .stuck
def asTup {α : Type} (f : PyData → Out α) : PyData → Out (List α)
  | .tuple xs => asAll f xs
  | _ => .stuck
def asT2 {α β : Type} (f : PyData → Out α) (g : PyData → Out β) : PyData → Out (α × β)
  | .tuple [x, y] => match f x, g y with
    | .ok a, .ok b => .ok (a, b)
    | _, _ => .stuck
  | _ => .stuck
/-- f reads the data of T -/
structure As {α : Type} (f : PyData → Out α) (T : Ty α) : Prop where
  ok : ∀ d a, f d = .ok a → ∀ K F v, Dp K F v d → T.rel K F v a
  ne : ∀ d x, f d ≠ .err x
theorem as_int : As asInt tInt := ⟨fun d a e K F v h => by
  cases h <;> simp [asInt] at e
  cases e
  rfl, fun d x e => by cases d <;> simp [asInt] at e <;> cases e⟩
theorem as_all {α : Type} {f : PyData → Out α} {T : Ty α} (hf : As f T) : ∀ (xs : List PyData) (as : List α), asAll f xs = .ok as → ∀ K F vs, DpAll K F vs xs → Fa2 (T.rel K F) vs as
  | [], as, e, K, F, vs, h => by
    cases e
    cases h
    exact .nil
  | x :: xs, as, e, K, F, vs, h => by
    unfold asAll at e
    cases e1 : f x with
    | ok a =>
      cases e2 : asAll f xs with
      | ok as' =>
        simp only [e1, e2] at e
        cases e
        cases h with
        | cons h1 h2 => exact .cons (hf.ok x a e1 K F _ h1) (as_all hf xs as' e2 K F _ h2)
      | err z => simp only [e1, e2] at e; cases e
      | stuck => simp only [e1, e2] at e; cases e
    | err z => simp only [e1] at e; cases e
    | stuck => simp only [e1] at e; cases e
theorem asAll_ne {α : Type} (f : PyData → Out α) (xs : List PyData) (x : Err) : asAll f xs ≠ .err x := by
  intro e
  cases xs with
  | nil => cases e
  | cons y ys =>
    unfold asAll at e
    split at e <;> cases e
theorem as_tup {α : Type} {f : PyData → Out α} {T : Ty α} (hf : As f T) : As (asTup f) (tTup T) where
  ok := fun d a e K F v h => by
    cases h with
    | tup q r => exact ⟨_, _, rfl, q, as_all hf _ _ e K F _ r⟩
    | _ => cases e
  ne := fun d x e => by
    cases d with
    | tuple xs => exact asAll_ne f xs x e
    | _ => cases e
end SL
namespace SL
open PySem PySem.Spec PyProof.Rows L2
variable {X : Cx} {N : List Str} {sc : Scp} {k : Nat} {E : XK} {B : Bs} {Γ : List Slot}
theorem we_as {e : Expr} {β : Type} {U : Ty β} {m : Out PyData} {f : PyData → Out β} (a : As f U) (h : WE X E B Γ e tD.rl m) : WE X E B Γ e U.rl (m >>= f) := h.as (fun d b e K F v r => a.ok d b e K F v r) a.ne
/-- what is known not to be None -/
def unO {α : Type} : Option α → Out α
  | some x => pure x
  | none => .stuck
theorem we_un {e : Expr} {α : Type} {T : Ty α} {m : Out (Option α)} (h : WE X E B Γ e (tOpt T).rl m) : WE X E B Γ e T.rl (m >>= unO) := h.as (fun a b e K F v r => by
  cases a with
  | none => cases e
  | some x => cases e; exact r.2) (fun a x e => by cases a <;> cases e)
end SL
namespace SL
open PySem PySem.Spec PyProof.Rows L2
variable {X : Cx} {N : List Str} {sc : Scp} {k : Nat} {E : XK} {B : Bs} {Γ : List Slot}
theorem ty_lstq {α : Type} {T : Ty α} : TyR (tLstQ T).rl fun _ => "list" := fun K F H v a s ⟨p, vs, e, q, r⟩ => by rw [e]; exact tyx_lst (s.seq q)
def isL : PyData → Bool
  | .list _ => true
  | _ => false
def isT : PyData → Bool
  | .tuple _ => true
  | _ => false
theorem kit_L : ∀ d, kitB (tyD d) "list" = some (isL d)
  | .none => by show kitB "NoneType" "list" = some false; decide +kernel
  | .bool _ => by show kitB "bool" "list" = some false; decide +kernel
  | .int _ => by show kitB "int" "list" = some false; decide +kernel
  | .str _ => by show kitB "str" "list" = some false; decide +kernel
  | .list _ => by show kitB "list" "list" = some true; decide +kernel
  | .tuple _ => by show kitB "tuple" "list" = some false; decide +kernel
  | .dict _ => by show kitB "dict" "list" = some false; decide +kernel
theorem kit_T : ∀ d, kitB (tyD d) "tuple" = some (isT d)
  | .none => by show kitB "NoneType" "tuple" = some false; decide +kernel
  | .bool _ => by show kitB "bool" "tuple" = some false; decide +kernel
  | .int _ => by show kitB "int" "tuple" = some false; decide +kernel
  | .str _ => by show kitB "str" "tuple" = some false; decide +kernel
  | .list _ => by show kitB "list" "tuple" = some false; decide +kernel
  | .tuple _ => by show kitB "tuple" "tuple" = some true; decide +kernel
  | .dict _ => by show kitB "dict" "tuple" = some false; decide +kernel
theorem ty_dn {n : Nat} : TyR (tDn n).rl tyD := fun K F H v a s h => ty_D K F H v a s h.1
theorem WE.dn {e : Expr} {n : Nat} {m : Out PyData} (h : WE X E B Γ e (tDn n).rl m) : WE X E B Γ e tD.rl m := fun σ F H ω Q en q => h σ F H ω Q en (q.imp fun a q v F' H' s r => q v F' H' s r.1)
def dnO (n : Nat) (d : PyData) : Out PyData := if d.depth ≤ n then pure d else .stuck
theorem we_dn {e : Expr} {n : Nat} {m : Out PyData} (h : WE X E B Γ e tD.rl m) : WE X E B Γ e (tDn n).rl (m >>= dnO n) := h.as (fun a b e K F v r => by
  unfold dnO at e
  by_cases c : a.depth ≤ n
  · rw [if_pos c] at e
    cases e
    exact ⟨r, c⟩
  · rw [if_neg c] at e
    cases e) (fun a x e => by
  unfold dnO at e
  by_cases c : a.depth ≤ n
  · rw [if_pos c] at e
    cases e
  · rw [if_neg c] at e
    cases e)
end SL

set_option Elab.async false
set_option linter.all false
set_option maxRecDepth 100000
set_option maxHeartbeats 2000000
/-! SLr: the law's own call, where defs may raise. -/
namespace SL
open PySem PySem.Spec PyProof.Rows L2
theorem walk_law {l : PySem.W.OpenLaw} {n k : Nat} {q : Program} {loose : List Str} {XP : (Str → Option Value) → Heap → Prop} {YP : World → Heap → Prop} {d : DefRec} {x : Str} {m : List Int → Out Bool}
    (hn : l.most = some n) (hn2 : n ≤ sizeLine) (hdf : d.params.defaults = []) (hr : Room k callerA)
    (F : ∀ (w : World) (mg : Str → Option Value) (fa : Addr) (h : Heap), YP w h → h.Ns mainGlobals mg → mg d.name = some (.ref fa) →
      ∃ (K : PySem.W.Frag) (fd : FuncData), K.In h ∧ (∀ (s : Shared) (u : Value), BindsTo s fd ⟨[u], []⟩ [(x, u)]) ∧
        ∀ base : Heap, K.In base → base.Ns mainGlobals mg → FnOk l.prog w K mg base (L2.CX l.prog w) k fa fd [x] (Sps (pC (tLstQ tInt) pN) (fun i => m i.1) tBool K))
    (M : ∀ ns : List Int, ns.length ≤ n → m ns = pure true) :
    PySem.W.WalkO q loose XP YP l.row.toRowW d [] (fun f vs => PySem.call f vs) := by
  refine Att.attach_call hn hdf fun w s₀ s₁ mg mb fa o pm cd doc a vs ns G Y ho hd hcd hmg hobj hints hlen hg => ?_
  obtain ⟨K, fd, KX, hb, hF⟩ := F w mg fa _ Y G.T.g hmg
  refine law_call KX G.T.g G.T.b G.T.builtins G.T.nolimit hg hobj hints (Nat.le_trans hlen hn2) hr hF hb (fun H hO hS => ?_) (fun H e s' ⟨_, _, _, _, _, _, _, _, _, _, _, _, h⟩ => h)
  refine ⟨(ns, ()), H, Same.refl H, ⟨.ref a, [], rfl, ⟨a, _, rfl, hS, int_fa2 ns⟩, rfl⟩, ?_⟩
  show Post (m ns) _ _
  rw [M ns hlen]
  exact fun v F' H' _ h => h
end SL

set_option Elab.async false
set_option linter.all false
set_option maxRecDepth 100000
set_option maxHeartbeats 2000000
/-! SM: plain mathematics of outcomes. -/
namespace SM
open PySem PySem.Spec PyProof.Rows L2 SL
theorem pbind {α β : Type} (a : α) (f : α → Out β) : ((pure a : Out α) >>= f) = f a := rfl
theorem bindp {α : Type} (m : Out α) : (m >>= fun a => pure a) = m := by cases m <;> rfl
/-! ### loops -/
theorem forO_inv {α S : Type} {f : S → α → Out S} (I : Nat → S → Prop) : ∀ (xs : List α) (k : Nat) (s : S), I k s → (∀ i s x, xs[i]? = some x → I (k + i) s → ∃ s', f s x = pure s' ∧ I (k + i + 1) s') → ∃ s', forO f xs s = pure s' ∧ I (k + xs.length) s'
  | [], k, s, h, _ => ⟨s, rfl, h⟩
  | x :: xs, k, s, h, hs => by
    obtain ⟨s1, e1, h1⟩ := hs 0 s x rfl h
    obtain ⟨s2, e2, h2⟩ := forO_inv I xs (k + 1) s1 h1 (fun i s y hy hi => by
      have := hs (i + 1) s y (by simpa using hy) (by rw [show k + (i + 1) = k + 1 + i by omega]; exact hi)
      rw [show k + (i + 1) + 1 = k + 1 + i + 1 by omega] at this
      exact this)
    refine ⟨s2, ?_, by rw [List.length_cons, show k + (xs.length + 1) = k + 1 + xs.length by omega]; exact h2⟩
    unfold forO
    rw [e1, pbind]
    exact e2
/-- from 0 -/
theorem forO_inv0 {α S : Type} {f : S → α → Out S} (I : Nat → S → Prop) (xs : List α) (s : S) (h : I 0 s) (hs : ∀ i s x, xs[i]? = some x → I i s → ∃ s', f s x = pure s' ∧ I (i + 1) s') : ∃ s', forO f xs s = pure s' ∧ I xs.length s' := by
  obtain ⟨s', e, h'⟩ := forO_inv I xs 0 s h (fun i s x hx hi => by
    rw [Nat.zero_add] at hi ⊢
    exact hs i s x hx hi)
  exact ⟨s', e, by rw [Nat.zero_add] at h'; exact h'⟩
theorem forO_foldl {α S : Type} {f : S → α → Out S} {g : S → α → S} : ∀ (xs : List α) (s : S), (∀ s x, x ∈ xs → f s x = pure (g s x)) → forO f xs s = pure (xs.foldl g s)
  | [], s, _ => rfl
  | x :: xs, s, h => by
    unfold forO
    rw [h s x (by simp), pbind, forO_foldl xs (g s x) fun s y hy => h s y (by simp [hy])]
    rfl
theorem while_inv {S : Type} {c : S → Out Bool} {f : S → Out S} {Q : S → Prop} (I : Nat → S → Prop) (h : ∀ m s, I m s → (c s = pure false ∧ Q s) ∨ (∃ m', m' < m ∧ c s = pure true ∧ ∃ s', f s = pure s' ∧ I m' s')) :
    ∀ (n m : Nat) (s : S), m < n → I m s → ∃ s', whileO c f n s = pure s' ∧ Q s'
  | 0, m, s, hm, _ => absurd hm (by omega)
  | n + 1, m, s, hm, hi => by
    unfold whileO
    rcases h m s hi with ⟨e, q⟩ | ⟨m', hm', e, s', es, hi'⟩
    · rw [e]
      exact ⟨s, rfl, q⟩
    · rw [e, pbind, if_pos rfl, es, pbind]
      exact while_inv I h n m' s' (by omega) hi'
theorem mapO_ok {α β : Type} {f : α → Out β} {g : α → β} : ∀ xs : List α, (∀ x ∈ xs, f x = pure (g x)) → mapO f xs = pure (xs.map g)
  | [], _ => rfl
  | x :: xs, h => by
    unfold mapO
    rw [h x (by simp), mapO_ok xs fun y hy => h y (by simp [hy])]
    rfl
theorem mapO_ex {α β : Type} {f : α → Out β} : ∀ xs : List α, (∀ x ∈ xs, ∃ y, f x = pure y) → ∃ ys, mapO f xs = pure ys ∧ ys.length = xs.length ∧ ∀ (i : Nat) x y, xs[i]? = some x → ys[i]? = some y → f x = pure y
  | [], _ => ⟨[], rfl, rfl, fun i x y h => by simp at h⟩
  | x :: xs, h => by
    obtain ⟨y, e⟩ := h x (by simp)
    obtain ⟨ys, e2, l, g⟩ := mapO_ex xs fun z hz => h z (by simp [hz])
    refine ⟨y :: ys, ?_, by simp [l], fun i a b ha hb => ?_⟩
    · unfold mapO
      rw [e, e2]
      rfl
    · cases i with
      | zero =>
        simp at ha hb
        subst ha hb
        exact e
      | succ i => exact g i a b (by simpa using ha) (by simpa using hb)
theorem compO_ok {α β : Type} {c : α → Out Bool} {m : α → Out β} {p : α → Bool} {g : α → β} : ∀ xs : List α, (∀ x ∈ xs, c x = pure (p x)) → (∀ x ∈ xs, p x = true → m x = pure (g x)) → compO (fun x => ifO (c x) (m x)) xs = pure ((xs.filter p).map g)
  | [], _, _ => rfl
  | x :: xs, h1, h2 => by
    have ih := compO_ok xs (fun y hy => h1 y (by simp [hy])) (fun y hy => h2 y (by simp [hy]))
    cases e : p x with
    | false =>
      have e2 : ifO (c x) (m x) = .ok none := by unfold ifO; rw [h1 x (by simp), e]; rfl
      rw [List.filter_cons_of_neg (by simp [e])]
      unfold compO
      rw [e2]
      exact ih
    | true =>
      have e2 : ifO (c x) (m x) = .ok (some (g x)) := by
        unfold ifO
        rw [h1 x (by simp), e, pbind, if_pos rfl, h2 x (by simp) e]
        rfl
      rw [List.filter_cons_of_pos e, List.map_cons]
      unfold compO
      rw [e2]
      simp only [ih]
      rfl
/-- no test -/
theorem comp2_flat {α β γ : Type} {f : α → Out (List β)} {h : α → List β} {g : α → β → γ} : ∀ xs : List α, (∀ x ∈ xs, f x = pure (h x)) → comp2O f (fun a b => ifO (pure true) (pure (g a b))) xs = pure (xs.flatMap fun x => (h x).map (g x))
  | [], _ => rfl
  | x :: xs, hf => by
    unfold comp2O
    rw [hf x (by simp), comp2_flat xs fun y hy => hf y (by simp [hy])]
    have e : compO (fun b => ifO (pure true) (pure (g x b))) (h x) = pure ((h x).map (g x)) := by
      have := compO_ok (c := fun _ => pure true) (m := fun b => (pure (g x b) : Out γ)) (p := fun _ => true) (g := g x) (h x) (fun _ _ => rfl) (fun _ _ _ => rfl)
      rw [this, List.filter_eq_self.mpr (fun _ _ => rfl)]
    simp only [pure_ok] at e ⊢
    simp only [e]
    rfl
theorem limO_ok {α : Type} {xs : List α} (h : xs.length ≤ 16777216) : limO xs = pure xs := if_pos h

/-! ### sequences -/
theorem ixN_nat {n k : Nat} (h : k < n) : ixN n (k : Int) = some k := by
  unfold ixN
  rw [if_pos (by omega), if_pos (by omega)]
  simp
theorem idx_nat {α : Type} {xs : List α} {k : Nat} {a : α} (h : xs[k]? = some a) : idx xs (k : Int) = pure a := by
  have hk := (List.getElem?_eq_some_iff.mp h).1
  unfold idx atI
  rw [ixN_nat hk]
  show (match xs[k]? with | some v => pure v | none => Out.stuck) = _
  rw [h]
theorem idx_int {α : Type} {xs : List α} {i : Int} {a : α} (h0 : 0 ≤ i) (h : xs[i.toNat]? = some a) : idx xs i = pure a := by
  have := idx_nat h
  rwa [Int.toNat_of_nonneg h0] at this
theorem idx_lt {α : Type} {xs : List α} {i : Int} (h0 : 0 ≤ i) (h : i < xs.length) : ∃ a, idx xs i = pure a ∧ xs[i.toNat]? = some a := by
  have hk : i.toNat < xs.length := by omega
  exact ⟨xs[i.toNat], idx_int h0 (List.getElem?_eq_getElem hk), List.getElem?_eq_getElem hk⟩
theorem appO_ok {α : Type} {xs : List α} {x : α} (h : xs.length < 16777216) : appO xs x = pure (xs ++ [x]) := if_pos h
theorem catO_ok {α : Type} {xs ys : List α} (h : xs.length + ys.length ≤ 16777216) : catO xs ys = pure (xs ++ ys) := if_pos h
theorem setO_nat {α : Type} {xs : List α} {k : Nat} {x : α} (h : k < xs.length) : setO xs (k : Int) x = pure (xs.set k x) := by
  unfold setO ixO
  rw [ixN_nat h]
  rfl
theorem rangeO_nat {n : Nat} (h : n ≤ 16777216) : rangeO (n : Int) = pure (upto n) := by
  unfold rangeO
  rw [if_pos (by omega)]
  simp
theorem upto_get {n i : Nat} (h : i < n) : (upto n)[i]? = some (i : Int) := by simp [upto, h]
theorem upto_at {n i : Nat} {x : Int} (h : (upto n)[i]? = some x) : x = (i : Int) ∧ i < n := by
  have hi := (List.getElem?_eq_some_iff.mp h).1
  rw [upto_len] at hi
  rw [upto_get hi] at h
  exact ⟨(Option.some.inj h).symm, hi⟩
theorem upto_mem {n : Nat} {x : Int} : x ∈ upto n ↔ 0 ≤ x ∧ x < n := by
  unfold upto
  rw [List.mem_map]
  constructor
  · rintro ⟨i, hi, rfl⟩
    rw [List.mem_range] at hi
    omega
  · intro h
    exact ⟨x.toNat, List.mem_range.mpr (by omega), by omega⟩
theorem upto_succ (n : Nat) : upto (n + 1) = upto n ++ [(n : Int)] := by simp [upto, List.range_succ]
theorem rep_len {α : Type} (a : α) : ∀ n : Nat, (List.replicate n [a]).flatten = List.replicate n a
  | 0 => rfl
  | n + 1 => by rw [List.replicate_succ, List.flatten_cons, rep_len a n]; rfl
theorem repO_nat {α : Type} {a : α} {n : Nat} (h : n ≤ 16777216) : repO [a] (n : Int) = pure (List.replicate n a) := by
  unfold repO
  rw [if_pos ⟨by omega, by simp; omega, by omega⟩]
  simp [rep_len]
theorem cut_take {α : Type} (xs : List α) (n : Nat) : cut xs none (some (n : Int)) = xs.take n := by
  unfold cut
  show (xs.drop 0).take (HT.sIx xs.length xs.length (some (n : Int)) - 0) = _
  rw [HT.sIx_nat, List.drop_zero, Nat.sub_zero]
  by_cases h : n ≤ xs.length
  · rw [Nat.min_eq_left h]
  · rw [Nat.min_eq_right (by omega), List.take_of_length_le (Nat.le_refl _), List.take_of_length_le (by omega)]
theorem cut_mid {α : Type} (xs : List α) (a b : Nat) : cut xs (some (a : Int)) (some (b : Int)) = (xs.drop (min a xs.length)).take (min b xs.length - min a xs.length) := by
  unfold cut
  rw [HT.sIx_nat, HT.sIx_nat]
theorem mulO_r {i j : Int} (h1 : -(2 ^ 64) < j) (h2 : j < 2 ^ 64) : mulO i j = pure (i * j) := if_pos (.inr ⟨h1, h2⟩)
theorem modO_ok {i j : Int} (h : 0 < j) : modO i j = pure (i % j) := if_pos h
theorem divO_ok {i j : Int} (h : 0 < j) (h2 : j < 1073741824) : divO i j = pure (i / j) := if_pos ⟨h, h2⟩
end SM

set_option Elab.async false
set_option linter.all false
set_option maxRecDepth 100000
set_option maxHeartbeats 2000000
/-! SLs: own things within own things: boxes, what is read of them, ways into them. -/
namespace SL
open PySem PySem.Spec PyProof.Rows L2
variable {X : Cx} {N : List Str} {sc : Scp} {k : Nat} {E : XK} {B : Bs} {Γ : List Slot}
abbrev Fp := Addr → Prop

/-! ### boxes -/
inductive Its {α : Type} (R : Fp → V → α → Prop) : List Fp → List V → List α → Prop where
  | nil : Its R [] [] []
  | cons {s : Fp} {v : V} {a : α} {ss : List Fp} {vs : List V} {as : List α} : R s v a → Its R ss vs as → Its R (s :: ss) (v :: vs) (a :: as)
theorem Its.len {α : Type} {R : Fp → V → α → Prop} {ss : List Fp} {vs : List V} {as : List α} (h : Its R ss vs as) : ss.length = as.length ∧ vs.length = as.length := by
  induction h with
  | nil => exact ⟨rfl, rfl⟩
  | cons _ _ ih => exact ⟨by simp [ih.1], by simp [ih.2]⟩
theorem Its.get {α : Type} {R : Fp → V → α → Prop} {ss : List Fp} {vs : List V} {as : List α} (h : Its R ss vs as) : ∀ {j : Nat} {a : α}, as[j]? = some a → ∃ s v, ss[j]? = some s ∧ vs[j]? = some v ∧ R s v a := by
  induction h with
  | nil => intro j a e; simp at e
  | cons r _ ih =>
    intro j a e
    cases j with
    | zero => simp at e; subst e; exact ⟨_, _, rfl, rfl, r⟩
    | succ j => simpa using ih (by simpa using e)
theorem Its.imp {α : Type} {R R' : Fp → V → α → Prop} {ss : List Fp} {vs : List V} {as : List α} (h : Its R ss vs as) (f : ∀ s ∈ ss, ∀ v a, R s v a → R' s v a) : Its R' ss vs as := by
  induction h with
  | nil => exact .nil
  | cons r _ ih => exact .cons (f _ (by simp) _ _ r) (ih fun s hs => f s (by simp [hs]))
theorem Its.app {α : Type} {R : Fp → V → α → Prop} {ss tt : List Fp} {vs ws : List V} {as bs : List α} (h : Its R ss vs as) (g : Its R tt ws bs) : Its R (ss ++ tt) (vs ++ ws) (as ++ bs) := by
  induction h with
  | nil => exact g
  | cons r _ ih => exact .cons r ih
/-- one item is another, the others by another relation -/
theorem Its.set {α : Type} {R R' : Fp → V → α → Prop} {ss : List Fp} {vs : List V} {as : List α} (h : Its R ss vs as) {s' : Fp} {v' : V} {a' : α} (r : R' s' v' a') : ∀ (j : Nat), (∀ i s v a, i ≠ j → ss[i]? = some s → R s v a → R' s v a) → Its R' (ss.set j s') (vs.set j v') (as.set j a') := by
  induction h with
  | nil => intro j _; simpa using Its.nil
  | @cons s v a ss vs as q t ih =>
    intro j hj
    cases j with
    | zero =>
      refine .cons r ?_
      clear ih
      have : ∀ i s v a, ss[i]? = some s → R s v a → R' s v a := fun i s v a e q => hj (i + 1) s v a (by simp) (by simpa using e) q
      clear hj r
      induction t with
      | nil => exact .nil
      | cons q t ih => exact .cons (this 0 _ _ _ rfl q) (ih fun i s v a e q => this (i + 1) s v a (by simpa using e) q)
    | succ j => exact .cons (hj 0 _ _ _ (by simp) rfl q) (ih j fun i s v a hi e q => hj (i + 1) s v a (by omega) (by simpa using e) q)
def bxRel {α : Type} (O : Own α) (mk : List V → HO) (K : PySem.W.Frag) (F H : Hp) (S : Fp) (v : V) (a : List α) : Prop :=
  ∃ p vs ss, v = .ref p ∧ S p ∧ H p = some (mk vs) ∧ Its (O.rel K F H) ss vs a ∧ (∀ s ∈ ss, ∀ q, s q → S q ∧ q ≠ p) ∧ ∀ (i j : Nat) s t, i ≠ j → ss[i]? = some s → ss[j]? = some t → ∀ q, s q → ¬ t q
def oBx (mk : List V → HO) {α : Type} (O : Own α) : Own (List α) := ⟨fun K F H S v a => bxRel O mk K F H S v a, fun ⟨p, vs, ss, e, sp, hp, it, hs, hd⟩ sf k =>
  ⟨p, vs, ss, e, sp, by rw [k p sp]; exact hp, it.imp fun s hm v a r => O.keep r sf fun q hq => k q (hs s hm q hq).1, hs, hd⟩⟩
abbrev oL {α : Type} (O : Own α) : Own (List α) := oBx HO.lst O
abbrev oTu {α : Type} (O : Own α) : Own (List α) := oBx HO.tup O
/-- own things of which the one at w, with the addresses s, may be changed -/
def SubAt (K : PySem.W.Frag) (F H : Hp) (S : Fp) (v : V) {α : Type} (O : Own α) {β : Type} (O' : Own β) (w : V) (b : β) (put : β → α) : Prop :=
  ∃ s : Fp, (∀ q, s q → S q) ∧ O'.rel K F H s w b ∧ ∀ F' H' s' b', Same F F' → (∀ q, S q → ¬ s q → H' q = H q) → (∀ q, s' q → s q ∨ ¬ S q) → O'.rel K F' H' s' w b' → O.rel K F' H' (fun q => (S q ∧ ¬ s q) ∨ s' q) v (put b')
theorem SubAt.refl {K : PySem.W.Frag} {F H : Hp} {S : Fp} {v : V} {α : Type} {O : Own α} {a : α} (h : O.rel K F H S v a) : SubAt K F H S v O O v a (fun b => b) := ⟨S, fun _ h => h, h, fun F' H' s' b' _ _ _ r => by
  have e : (fun q => (S q ∧ ¬ S q) ∨ s' q) = s' := funext fun q => propext ⟨fun z => z.resolve_left fun z => z.2 z.1, .inr⟩
  rw [e]
  exact r⟩
theorem SubAt.trans {K : PySem.W.Frag} {F H : Hp} {S s : Fp} {v w u : V} {α β γ : Type} {O : Own α} {O1 : Own β} {O2 : Own γ} {c : γ} {put : β → α} {put2 : γ → β} (hs : ∀ q, s q → S q)
    (up : ∀ F' H' s' b', Same F F' → (∀ q, S q → ¬ s q → H' q = H q) → (∀ q, s' q → s q ∨ ¬ S q) → O1.rel K F' H' s' w b' → O.rel K F' H' (fun q => (S q ∧ ¬ s q) ∨ s' q) v (put b'))
    (h2 : SubAt K F H s w O1 O2 u c put2) : SubAt K F H S v O O2 u c (fun x => put (put2 x)) := by
  obtain ⟨t, ht, r2, up2⟩ := h2
  refine ⟨t, fun q hq => hs q (ht q hq), r2, fun F' H' s' b' sf k hs' r3 => ?_⟩
  have q2 := up2 F' H' s' b' sf (fun q h1 h2 => k q (hs q h1) h2) (fun q hq => (hs' q hq).imp id fun n z => n (hs q z)) r3
  have q1 := up F' H' _ _ sf (fun q h1 h2 => k q h1 fun z => h2 (ht q z)) (fun q hq => by
    rcases hq with ⟨z, _⟩ | z
    · exact .inl z
    · rcases hs' q z with z | z
      · exact .inl (ht q z)
      · exact .inr z) q2
  have e : (fun q => (S q ∧ ¬ s q) ∨ ((s q ∧ ¬ t q) ∨ s' q)) = fun q => (S q ∧ ¬ t q) ∨ s' q := funext fun q => propext (by
    constructor
    · rintro (⟨x, y⟩ | ⟨x, y⟩ | x)
      · exact .inl ⟨x, fun z => y (ht q z)⟩
      · exact .inl ⟨hs q x, y⟩
      · exact .inr x
    · rintro (⟨x, y⟩ | x)
      · by_cases c : s q
        · exact .inr (.inl ⟨c, y⟩)
        · exact .inl ⟨x, c⟩
      · exact .inr (.inr x))
  rw [e] at q1
  exact q1
theorem SubAt.keep {K : PySem.W.Frag} {F H F' H' : Hp} {S : Fp} {v w : V} {α β : Type} {O : Own α} {O' : Own β} {b : β} {put : β → α} (h : SubAt K F H S v O O' w b put) (sf : Same F F') (k : ∀ q, S q → H' q = H q) : SubAt K F' H' S v O O' w b put := by
  obtain ⟨s, hs, r, up⟩ := h
  exact ⟨s, hs, O'.keep r sf fun q hq => k q (hs q hq), fun F2 H2 s' b' sf2 k2 hs' r' => up F2 H2 s' b' (sf.trans sf2) (fun q h1 h2 => (k2 q h1 h2).trans (k q h1)) hs' r'⟩
/-- the item at j of a box -/
theorem bx_sub0 {K : PySem.W.Frag} {F H : Hp} {S : Fp} {α : Type} {O : Own α} {mk : List V → HO} {a : List α} {p : Addr} {vs : List V} {ss : List Fp} (sp : S p) (hp : H p = some (mk vs)) (it : Its (O.rel K F H) ss vs a) (hs : ∀ s ∈ ss, ∀ q, s q → S q ∧ q ≠ p)
    (hd : ∀ (i j : Nat) s t, i ≠ j → ss[i]? = some s → ss[j]? = some t → ∀ q, s q → ¬ t q) {j : Nat} {b : α} (e : a[j]? = some b) : ∃ w, vs[j]? = some w ∧ SubAt K F H S (.ref p) (oBx mk O) O w b (fun x => a.set j x) := by
  obtain ⟨s, w, es, ew, r⟩ := it.get e
  have hm : s ∈ ss := List.mem_of_getElem? es
  refine ⟨w, ew, s, fun q hq => (hs s hm q hq).1, r, fun F' H' s' b' sf kk hs' r' => ?_⟩
  have hj : j < ss.length := (List.getElem?_eq_some_iff.mp es).1
  have ev : vs.set j w = vs := by
    have h1 := (List.getElem?_eq_some_iff.mp ew)
    obtain ⟨h1, h2⟩ := h1
    rw [← h2, List.set_getElem_self]
  refine ⟨p, vs, ss.set j s', rfl, .inl ⟨sp, fun z => (hs s hm p z).2 rfl⟩, by rw [kk p sp fun z => (hs s hm p z).2 rfl]; exact hp, ?_, ?_, ?_⟩
  · have := it.set (R' := O.rel K F' H') r' j fun i t u c hi et q => O.keep q sf fun x hx => kk x (hs t (List.mem_of_getElem? et) x hx).1 fun z => hd i j t s hi et es x hx z
    rw [ev] at this
    exact this
  · intro t ht q hq
    obtain ⟨i, et⟩ := List.mem_iff_getElem?.mp ht
    by_cases c : j = i
    · subst c
      rw [List.getElem?_set_self hj] at et
      cases et
      refine ⟨.inr hq, ?_⟩
      rcases hs' q hq with z | z
      · exact (hs s hm q z).2
      · exact fun x => z (x ▸ sp)
    · rw [List.getElem?_set_ne c] at et
      have := hs t (List.mem_of_getElem? et) q hq
      exact ⟨.inl ⟨this.1, fun z => hd j i s t c es et q z hq⟩, this.2⟩
  · intro i l t u hil et eu q hq hq2
    by_cases c : j = i
    · subst c
      rw [List.getElem?_set_self hj] at et
      cases et
      rw [List.getElem?_set_ne hil] at eu
      rcases hs' q hq with z | z
      · exact hd j l s u hil es eu q z hq2
      · exact z (hs u (List.mem_of_getElem? eu) q hq2).1
    · rw [List.getElem?_set_ne c] at et
      by_cases c2 : j = l
      · subst c2
        rw [List.getElem?_set_self hj] at eu
        cases eu
        rcases hs' q hq2 with z | z
        · exact hd i j t s (Ne.symm c) et es q hq z
        · exact z (hs t (List.mem_of_getElem? et) q hq).1
      · rw [List.getElem?_set_ne c2] at eu
        exact hd i l t u hil et eu q hq hq2
theorem bx_sub {K : PySem.W.Frag} {F H : Hp} {S : Fp} {v : V} {α : Type} {O : Own α} {mk : List V → HO} {a : List α} (h : (oBx mk O).rel K F H S v a) {j : Nat} {b : α} (e : a[j]? = some b) :
    ∃ p vs w, v = .ref p ∧ S p ∧ H p = some (mk vs) ∧ vs.length = a.length ∧ vs[j]? = some w ∧ SubAt K F H S v (oBx mk O) O w b (fun x => a.set j x) := by
  obtain ⟨p, vs, ss, rfl, sp, hp, it, hs, hd⟩ := h
  obtain ⟨w, ew, q⟩ := bx_sub0 sp hp it hs hd e
  exact ⟨p, vs, w, rfl, sp, hp, it.len.2, ew, q⟩
/-- a new item at j, at the end: the box itself is written -/
theorem bx_wr {K : PySem.W.Frag} {F H : Hp} {S : Fp} {v : V} {α : Type} {O : Own α} {mk : List V → HO} {a : List α} (h : (oBx mk O).rel K F H S v a) : ∃ p vs, v = .ref p ∧ S p ∧ H p = some (mk vs) ∧ vs.length = a.length ∧ (∀ (j : Nat) (b : α), a[j]? = some b → ∃ w, vs[j]? = some w ∧ SubAt K F H S v (oBx mk O) O w b (fun x => a.set j x)) ∧
    (∀ (mk' : List V → HO) (F' H' : Hp) (s' : Fp) (j : Nat) (w' : V) (b' : α), j < a.length → Same F F' → H' p = some (mk' (vs.set j w')) → (∀ q, S q → q ≠ p → H' q = H q) → (∀ q, s' q → ¬ S q) → O.rel K F' H' s' w' b' → (oBx mk' O).rel K F' H' (fun q => S q ∨ s' q) v (a.set j b')) ∧
    ∀ (mk' : List V → HO) (F' H' : Hp) (s' : Fp) (w' : V) (b' : α), Same F F' → H' p = some (mk' (vs ++ [w'])) → (∀ q, S q → q ≠ p → H' q = H q) → (∀ q, s' q → ¬ S q) → O.rel K F' H' s' w' b' → (oBx mk' O).rel K F' H' (fun q => S q ∨ s' q) v (a ++ [b']) := by
  obtain ⟨p, vs, ss, rfl, sp, hp, it, hs, hd⟩ := h
  refine ⟨p, vs, rfl, sp, hp, it.len.2, fun j b e => bx_sub0 sp hp it hs hd e, fun mk' F' H' s' j w' b' hj sf hp' kk hs' r' => ?_, fun mk' F' H' s' w' b' sf hp' kk hs' r' => ?_⟩
  · have hjs : j < ss.length := by rw [it.len.1]; exact hj
    refine ⟨p, vs.set j w', ss.set j s', rfl, .inl sp, hp', it.set (R' := O.rel K F' H') r' j fun i t u c hi et q => O.keep q sf fun x hx => kk x (hs t (List.mem_of_getElem? et) x hx).1 (hs t (List.mem_of_getElem? et) x hx).2, ?_, ?_⟩
    · intro t ht q hq
      obtain ⟨i, et⟩ := List.mem_iff_getElem?.mp ht
      by_cases c : j = i
      · subst c
        rw [List.getElem?_set_self hjs] at et
        cases et
        exact ⟨.inr hq, fun x => hs' q hq (x ▸ sp)⟩
      · rw [List.getElem?_set_ne c] at et
        have := hs t (List.mem_of_getElem? et) q hq
        exact ⟨.inl this.1, this.2⟩
    · intro i l t u hil et eu q hq hq2
      by_cases c : j = i
      · subst c
        rw [List.getElem?_set_self hjs] at et
        cases et
        rw [List.getElem?_set_ne hil] at eu
        exact hs' q hq (hs u (List.mem_of_getElem? eu) q hq2).1
      · rw [List.getElem?_set_ne c] at et
        by_cases c2 : j = l
        · subst c2
          rw [List.getElem?_set_self hjs] at eu
          cases eu
          exact hs' q hq2 (hs t (List.mem_of_getElem? et) q hq).1
        · rw [List.getElem?_set_ne c2] at eu
          exact hd i l t u hil et eu q hq hq2
  · refine ⟨p, vs ++ [w'], ss ++ [s'], rfl, .inl sp, hp', (it.imp fun t ht u c q => O.keep q sf fun x hx => kk x (hs t ht x hx).1 (hs t ht x hx).2).app (.cons r' .nil), ?_, ?_⟩
    · intro t ht q hq
      rcases List.mem_append.mp ht with z | z
      · exact ⟨.inl (hs t z q hq).1, (hs t z q hq).2⟩
      · rw [List.mem_singleton.mp z] at hq
        exact ⟨.inr hq, fun x => hs' q hq (x ▸ sp)⟩
    · intro i l t u hil et eu q hq hq2
      have lt : ∀ {i : Nat} {t : Fp}, (ss ++ [s'])[i]? = some t → (ss[i]? = some t ∧ i < ss.length) ∨ (t = s' ∧ i = ss.length) := fun {i t} e => by
        by_cases c : i < ss.length
        · rw [List.getElem?_append_left c] at e
          exact .inl ⟨e, c⟩
        · rw [List.getElem?_append_right (by omega)] at e
          by_cases c2 : i - ss.length = 0
          · rw [c2] at e
            simp at e
            exact .inr ⟨e.symm, by omega⟩
          · rw [List.getElem?_eq_none (by simp; omega)] at e
            cases e
      rcases lt et with ⟨x, hx⟩ | ⟨rfl, hx⟩
      · rcases lt eu with ⟨y, hy⟩ | ⟨rfl, hy⟩
        · exact hd i l t u hil x y q hq hq2
        · exact hs' q hq2 (hs t (List.mem_of_getElem? x) q hq).1
      · rcases lt eu with ⟨y, hy⟩ | ⟨rfl, hy⟩
        · exact hs' q hq (hs u (List.mem_of_getElem? y) q hq2).1
        · omega
/-- fixed -/
theorem its_fz {K : PySem.W.Frag} {F H : Hp} {α : Type} {O : Own α} {T : Ty α} {S : Fp} (z : Fz O T) (dj : ∀ q, S q → F q = none) {ss : List Fp} {vs : List V} {as : List α} (h : Its (O.rel K F H) ss vs as) (hs : ∀ s ∈ ss, ∀ q, s q → S q) : Fa2 (T.rel K (frz F H S)) vs as := by
  induction h with
  | nil => exact .nil
  | @cons s v a ss vs as r _ ih =>
    refine .cons ?_ (ih fun t ht => hs t (by simp [ht]))
    have q := z K F H s v a (fun q hq => dj q (hs s (by simp) q hq)) r
    refine T.mono (fun a o e => ?_) q
    by_cases c : s a
    · rw [frz_in c] at e
      rw [frz_in (hs s (by simp) a c)]
      exact e
    · rw [frz_out c] at e
      rw [frz_out (fun z => by rw [dj a z] at e; cases e)]
      exact e
theorem fz_l {α : Type} {O : Own α} {T : Ty α} (z : Fz O T) : Fz (oL O) (tLst T) := fun K F H S v a dj ⟨p, vs, ss, e, sp, hp, it, hs, hd⟩ => ⟨p, vs, e, (frz_in sp).trans hp, its_fz z dj it fun s hm q hq => (hs s hm q hq).1⟩
theorem fz_tu {α : Type} {O : Own α} {T : Ty α} (z : Fz O T) : Fz (oTu O) (tTup T) := fun K F H S v a dj ⟨p, vs, ss, e, sp, hp, it, hs, hd⟩ => ⟨p, vs, e, SqT.of ((frz_in sp).trans hp), its_fz z dj it fun s hm q hq => (hs s hm q hq).1⟩
theorem fz_im {α : Type} (T : Ty α) : Fz (im T) T := fun K F H S v a dj h => T.mono (frz_same dj) h

/-! ### what is read -/
def Own.vw {α : Type} (O : Own α) : Rl α := ⟨fun K F H v a => ∃ S : Fp, (∀ p, S p → H p ≠ none) ∧ O.rel K F H S v a, fun s ⟨S, n, r⟩ => ⟨S, fun p hp => same_ne s.hh (n p hp), O.keep r s.ff fun p hp => same_at s.hh (n p hp)⟩⟩
theorem vw_lst {α : Type} {T : Ty α} : ∀ K F H v (a : List α), Same F H → (oLst T).vw.rel K F H v a → (rLstH T).rel K F H v a := fun K F H v a _ ⟨S, n, p, vs, e, sp, h, r⟩ => ⟨p, vs, e, h, r⟩
theorem vw_im {α : Type} {T : Ty α} : ∀ K F H v (a : α), Same F H → (im T).vw.rel K F H v a → T.rl.rel K F H v a := fun K F H v a _ ⟨S, n, r⟩ => r
theorem WE.vl {e : Expr} {α : Type} {T : Ty α} {m : Out (List α)} (h : WE X E B Γ e (oLst T).vw m) : WE X E B Γ e (rLstH T) m := h.sub vw_lst
theorem WE.vi {e : Expr} {α : Type} {T : Ty α} {m : Out α} (h : WE X E B Γ e (im T).vw m) : WE X E B Γ e T.rl m := h.sub vw_im
/-- the own thing in slot i -/
theorem we_vw (C : XC X N sc k E) (i : Nat) {x : Str} {pos : Pos} {α : Type} {O : Own α} {a : α} (hΓ : Γ[i]? = some (.on α O a) := by rfl) (hN : N[i]? = some x := by rfl) (hv : Vis sc.sc x := by first | exact Or.inl rfl | exact Or.inr (Or.inl rfl) | exact Or.inr (Or.inr rfl))
    (hd : (x == ("__debug__" : Str)) = false := by decide) (hcd : (x == ("__classdict__" : Str)) = false := by decide) : WE X E B Γ (.Name x pos) O.vw (pure a) := fun σ F H ω Q e p => by
  obtain ⟨v, hs, r⟩ := e.slot i _ hΓ
  exact ⟨_, pv_ C hN hv hd hcd, v, join_some hs, p v F H (Stp.refl e.fh) ⟨_, fun q hq => (e.own q i hq).2.1, r⟩⟩
/-- lent by the caller -/
def tBor (B : Bs) {α : Type} (O : Own α) : Ty α := ⟨fun K _ v a => ∃ S : Fp, (∀ p, S p → B.H p ≠ none ∧ ¬ B.W p) ∧ O.rel K B.F B.H S v a, fun _ h => h⟩
theorem bor_vw {K : PySem.W.Frag} {Γ : List Slot} {σ : L2.St} {F H : Hp} {ω : Ow} {α : Type} {O : Own α} {v : V} {a : α} (e : EnvOk K B Γ σ F H ω) (F0 : Hp) (h : (tBor B O).rel K F0 v a) : ∃ S : Fp, (∀ p, S p → H p ≠ none ∧ B.H p ≠ none ∧ ¬ B.W p) ∧ O.rel K F H S v a := by
  obtain ⟨S, hS, r⟩ := h
  have hh : ∀ p, S p → H p = B.H p := fun p hp => by
    cases q : B.H p with
    | none => exact absurd q (hS p hp).1
    | some o => exact e.base.hh p o q (hS p hp).2
  exact ⟨S, fun p hp => ⟨by rw [hh p hp]; exact (hS p hp).1, hS p hp⟩, O.keep r e.base.ff hh⟩
theorem we_bor (C : XC X N sc k E) (i : Nat) {x : Str} {pos : Pos} {α : Type} {O : Own α} {a : α} (hΓ : Γ[i]? = some (iS (tBor B O) a) := by rfl) (hN : N[i]? = some x := by rfl) (hv : Vis sc.sc x := by first | exact Or.inl rfl | exact Or.inr (Or.inl rfl) | exact Or.inr (Or.inr rfl))
    (hd : (x == ("__debug__" : Str)) = false := by decide) (hcd : (x == ("__classdict__" : Str)) = false := by decide) : WE X E B Γ (.Name x pos) O.vw (pure a) := fun σ F H ω Q e p => by
  obtain ⟨v, hs, r⟩ := e.slot i _ hΓ
  obtain ⟨S, hS, r⟩ := bor_vw e F r
  exact ⟨_, pv_ C hN hv hd hcd, v, join_some hs, p v F H (Stp.refl e.fh) ⟨S, fun q hq => (hS q hq).1, r⟩⟩
/-- an item of a box that is read: of a list, of a tuple -/
theorem vw_bx {K : PySem.W.Frag} {F H : Hp} {v : V} {α : Type} {O : Own α} {mk : List V → HO} {a : List α} (h : (oBx mk O).vw.rel K F H v a) : ∃ p vs, v = .ref p ∧ H p = some (mk vs) ∧ vs.length = a.length ∧ ∀ (j : Nat) (b : α), a[j]? = some b → ∃ w, vs[j]? = some w ∧ O.vw.rel K F H w b := by
  obtain ⟨S, n, p, vs, ss, e, sp, hp, it, hs, hd⟩ := h
  refine ⟨p, vs, e, hp, it.len.2, fun j b ej => ?_⟩
  obtain ⟨s, w, es, ew, r⟩ := it.get ej
  exact ⟨w, ew, s, fun q hq => n q (hs s (List.mem_of_getElem? es) q hq).1, r⟩
theorem vw_at {K : PySem.W.Frag} {F H : Hp} {α : Type} {O : Own α} {a : List α} {vs : List V} (hl : vs.length = a.length) (h : ∀ (j : Nat) (b : α), a[j]? = some b → ∃ w, vs[j]? = some w ∧ O.vw.rel K F H w b) {i : Int} {b : α} (e : atI a i = some b) : ∃ w, atI vs i = some w ∧ O.vw.rel K F H w b := by
  unfold atI at e ⊢
  rw [hl]
  cases q : ixN a.length i with
  | none => rw [q] at e; cases e
  | some j =>
    rw [q] at e
    exact h j b e
section
variable {e1 e2 : Expr} {α : Type} {O : Own α} {m : Out (List α)} {mi : Out Int} {pos : Pos}
theorem we_vixL (h1 : WE X E B Γ e1 (oL O).vw m) (h2 : WE X E B Γ e2 tInt.rl mi) (hs : PlainIx e2 := by intro _ _; rfl) : WE X E B Γ (.Subscript e1 e2 pos) O.vw (m >>= fun a => mi >>= fun i => idx a i) :=
  two_ix (R := (oL O).vw) (S := tInt.rl) ix_list (fun F H x y a b Q J s h h2 po => by
    unfold idx at po
    cases q2 : atI a b with
    | none => rw [q2] at po; exact po.elim
    | some z =>
      rw [q2] at po
      obtain ⟨p, vs, e, q, hl, hj⟩ := vw_bx h
      obtain ⟨v, hv, rv⟩ := vw_at hl hj q2
      exact ⟨p, vs, b, v, e, h2, SqL.of q, hv, po v F H (Stp.refl s) rv⟩) h1 h2 hs
theorem we_vixT (h1 : WE X E B Γ e1 (oTu O).vw m) (h2 : WE X E B Γ e2 tInt.rl mi) (hs : PlainIx e2 := by intro _ _; rfl) : WE X E B Γ (.Subscript e1 e2 pos) O.vw (m >>= fun a => mi >>= fun i => idx a i) :=
  two_ix (R := (oTu O).vw) (S := tInt.rl) ix_tup (fun F H x y a b Q J s h h2 po => by
    unfold idx at po
    cases q2 : atI a b with
    | none => rw [q2] at po; exact po.elim
    | some z =>
      rw [q2] at po
      obtain ⟨p, vs, e, q, hl, hj⟩ := vw_bx h
      obtain ⟨v, hv, rv⟩ := vw_at hl hj q2
      exact ⟨p, vs, b, v, e, h2, SqT.of q, hv, po v F H (Stp.refl s) rv⟩) h1 h2 hs
theorem vl_len : ∀ K F H v (a : List α), Same F H → (oL O).vw.rel K F H v a → ∃ q vs, v = .ref q ∧ (SqL K H q vs ∨ SqT K H q vs) ∧ vs.length = a.length := fun K F H v a s h => by
  obtain ⟨p, vs, e, q, hl, _⟩ := vw_bx h
  exact ⟨p, vs, e, .inl (SqL.of q), hl⟩
theorem vt_len : ∀ K F H v (a : List α), Same F H → (oTu O).vw.rel K F H v a → ∃ q vs, v = .ref q ∧ (SqL K H q vs ∨ SqT K H q vs) ∧ vs.length = a.length := fun K F H v a s h => by
  obtain ⟨p, vs, e, q, hl, _⟩ := vw_bx h
  exact ⟨p, vs, e, .inr (SqT.of q), hl⟩
/-- len of what can be told the length of -/
theorem we_lenR (C : XC X N sc k E) (Z : Fre X.mg) {e : Expr} {p : Pos} {R : Rl (List α)} (hR : ∀ K F H v (a : List α), Same F H → R.rel K F H v a → ∃ q vs, v = .ref q ∧ (SqL K H q vs ∨ SqT K H q vs) ∧ vs.length = a.length) (h : WE X E B Γ e R m) (hg : GlN sc "len" := by rfl)
    (he : starEach (e :: []) X.env = (false, eval e X.env) :: starEach [] X.env := by rfl) : WE X E B Γ (.Call (.Name "len" p) [e] [] pos) tInt.rl (m >>= fun a => pure (a.length : Int)) :=
  cb1 (R := R) C call_len_seq Z.len boot_len (fun F H x a Q J s h po => by
    obtain ⟨p, vs, e, q, hl⟩ := hR _ F H x a s h
    exact ⟨p, vs, by rw [e], q, by rw [hl]; exact po _ F H (Stp.refl s) rfl⟩) h hg (he := he)
end
end SL

set_option Elab.async false
set_option linter.all false
set_option maxRecDepth 100000
set_option maxHeartbeats 2000000
/-! SLt: dicts of whatever keys; ways into own things; stores. -/
namespace SL
open PySem PySem.Spec PyProof.Rows L2
variable {X : Cx} {N : List Str} {sc : Scp} {k : Nat} {E : XK} {B : Bs} {Γ : List Slot}

/-! ### tables -/
section
variable {κ α β : Type} [DecidableEq κ]
def aget : List (κ × α) → κ → Option α
  | [], _ => none
  | (j, x) :: r, k => if j = k then some x else aget r k
def afind : List (κ × α) → κ → Option Nat
  | [], _ => none
  | (j, _) :: r, k => if j = k then some 0 else (afind r k).map (· + 1)
def aput : List (κ × α) → κ → α → List (κ × α)
  | [], k, x => [(k, x)]
  | (j, y) :: r, k, x => if j = k then (j, x) :: r else (j, y) :: aput r k x
def agetO (a : List (κ × α)) (k : κ) : Out α := match aget a k with
  | some x => pure x
  | none => .stuck
def aputO (a : List (κ × α)) (k : κ) (x : α) : Out (List (κ × α)) := if a.length < 16777216 then pure (aput a k x) else .stuck
theorem aget_find : ∀ {a : List (κ × α)} {k : κ} {x : α}, aget a k = some x → ∃ j, afind a k = some j ∧ a[j]? = some (k, x)
  | [], _, _, h => by cases h
  | (j, y) :: r, k, x, h => by
    unfold aget at h
    unfold afind
    by_cases c : j = k
    · rw [if_pos c] at h
      cases h
      subst c
      exact ⟨0, by rw [if_pos rfl], rfl⟩
    · rw [if_neg c] at h
      obtain ⟨i, h1, h2⟩ := aget_find h
      exact ⟨i + 1, by rw [if_neg c, h1]; rfl, by simpa using h2⟩
theorem afind_of_none : ∀ {a : List (κ × α)} {k : κ}, aget a k = none → afind a k = none
  | [], _, _ => rfl
  | (i, y) :: r, k, h => by
    unfold aget at h
    unfold afind
    by_cases c : i = k
    · rw [if_pos c] at h; cases h
    · rw [if_neg c] at h ⊢
      rw [afind_of_none h]; rfl
theorem aget_zip {ks : List κ} : ∀ {as : List α} {bs : List β} {k : κ} {j : Nat}, ks.length = as.length → ks.length = bs.length → afind (ks.zip as) k = some j → afind (ks.zip bs) k = some j ∧ ∀ b, bs[j]? = some b → aget (ks.zip bs) k = some b := by
  induction ks with
  | nil => intro as bs k j _ _ h; cases h
  | cons i ks ih =>
    intro as bs k j h1 h2 h
    cases as with
    | nil => simp at h1
    | cons a as =>
      cases bs with
      | nil => simp at h2
      | cons b bs =>
        simp only [List.zip_cons_cons] at h ⊢
        unfold afind at h ⊢
        unfold aget
        by_cases c : i = k
        · rw [if_pos c] at h ⊢
          cases h
          exact ⟨rfl, fun b' e => by rw [if_pos c]; simpa using e⟩
        · rw [if_neg c] at h ⊢
          cases q : afind (ks.zip as) k with
          | none => rw [q] at h; cases h
          | some l =>
            rw [q] at h
            cases h
            obtain ⟨g1, g2⟩ := ih (by simpa using h1) (by simpa using h2) q
            refine ⟨by rw [g1]; rfl, fun b' e => ?_⟩
            rw [if_neg c]
            exact g2 b' (by simpa using e)
theorem afind_none_zip {ks : List κ} : ∀ {as : List α} {bs : List β} {k : κ}, ks.length = as.length → ks.length = bs.length → afind (ks.zip as) k = none → afind (ks.zip bs) k = none ∧ aget (ks.zip bs) k = none := by
  induction ks with
  | nil => intro as bs k _ _ _; exact ⟨rfl, rfl⟩
  | cons i ks ih =>
    intro as bs k h1 h2 h
    cases as with
    | nil => simp at h1
    | cons a as =>
      cases bs with
      | nil => simp at h2
      | cons b bs =>
        simp only [List.zip_cons_cons] at h ⊢
        unfold afind at h ⊢
        unfold aget
        by_cases c : i = k
        · rw [if_pos c] at h; cases h
        · rw [if_neg c] at h ⊢
          cases q : afind (ks.zip as) k with
          | some l => rw [q] at h; cases h
          | none =>
            obtain ⟨g1, g2⟩ := ih (by simpa using h1) (by simpa using h2) q
            exact ⟨by rw [g1]; rfl, by rw [if_neg c]; exact g2⟩
theorem afind_lt : ∀ {a : List (κ × α)} {k : κ} {j : Nat}, afind a k = some j → ∃ x, a[j]? = some (k, x)
  | [], _, _, h => by cases h
  | (i, y) :: r, k, j, h => by
    unfold afind at h
    by_cases c : i = k
    · rw [if_pos c] at h
      cases h
      subst c
      exact ⟨y, rfl⟩
    · rw [if_neg c] at h
      cases q : afind r k with
      | none => rw [q] at h; cases h
      | some l =>
        rw [q] at h
        cases h
        obtain ⟨x, hx⟩ := afind_lt q
        exact ⟨x, by simpa using hx⟩
theorem aput_some : ∀ {a : List (κ × α)} {k : κ} {j : Nat} (x : α), afind a k = some j → aput a k x = a.set j (k, x)
  | [], _, _, _, h => by cases h
  | (i, y) :: r, k, j, x, h => by
    unfold afind at h
    unfold aput
    by_cases c : i = k
    · rw [if_pos c] at h ⊢
      cases h
      rw [c]; rfl
    · rw [if_neg c] at h ⊢
      cases q : afind r k with
      | none => rw [q] at h; cases h
      | some l =>
        rw [q] at h
        cases h
        rw [aput_some x q]; rfl
theorem aput_none : ∀ {a : List (κ × α)} {k : κ} (x : α), afind a k = none → aput a k x = a ++ [(k, x)]
  | [], _, _, _ => rfl
  | (i, y) :: r, k, x, h => by
    unfold afind at h
    unfold aput
    by_cases c : i = k
    · rw [if_pos c] at h; cases h
    · rw [if_neg c] at h ⊢
      cases q : afind r k with
      | some l => rw [q] at h; cases h
      | none => rw [aput_none x q]; rfl
theorem afind_keys : ∀ {a : List (κ × α)} {b : List (κ × β)} {k : κ}, a.map (·.1) = b.map (·.1) → afind a k = afind b k
  | [], [], _, _ => rfl
  | [], _ :: _, _, h => by cases h
  | _ :: _, [], _, h => by cases h
  | (i, y) :: r, (j, z) :: s, k, h => by
    simp only [List.map_cons, List.cons.injEq] at h
    unfold afind
    rw [afind_keys h.2, h.1]
theorem afind_no : ∀ {a : List (κ × α)} {k : κ}, afind a k = none → k ∉ a.map (·.1)
  | [], _, _ => by simp
  | (i, y) :: r, k, h => by
    unfold afind at h
    by_cases c : i = k
    · rw [if_pos c] at h; cases h
    · rw [if_neg c] at h
      cases q : afind r k with
      | some l => rw [q] at h; cases h
      | none =>
        have := afind_no q
        simp only [List.map_cons, List.mem_cons, not_or]
        exact ⟨Ne.symm c, this⟩
theorem aput_keys_some {a : List (κ × α)} {k : κ} {j : Nat} (x : α) (h : afind a k = some j) : (a.set j (k, x)).map (·.1) = a.map (·.1) := by
  obtain ⟨y, hy⟩ := afind_lt h
  obtain ⟨h1, h2⟩ := List.getElem?_eq_some_iff.mp hy
  rw [List.map_set]
  have : k = (a.map (·.1))[j]'(by simpa using h1) := by simp [h2]
  rw [this, List.set_getElem_self]
end
/-- the keys of one kind -/
structure KeyD (κ : Type) [DecidableEq κ] where
  T : Ty κ
  ho : List (κ × V) → HO
  get : ∀ {K : PySem.W.Frag} {F H : Hp} {p : Addr} {v : V} {k : κ} (kvs : List (κ × V)), Same F H → T.rel K F v k → Rd H p (ho kvs) → DGet H p v (aget kvs k)
  put : ∀ {K : PySem.W.Frag} {F H : Hp} {p : Addr} {v w : V} {k : κ} (kvs : List (κ × V)), Same F H → T.rel K F v k → H p = some (ho kvs) → (kvs.map (·.1)).Nodup → kvs.length < sizeLine → DPut H p v w (upd H p (ho (aput kvs k w)))
  isD : ∀ {H : Hp} {p : Addr} (kvs : List (κ × V)), Rd H p (ho kvs) → IsD H p
section
variable {κ κ' : Type} [DecidableEq κ] [DecidableEq κ'] {g : κ → κ'}
theorem valV_emb (hg : ∀ a b, g a = g b → a = b) (k : κ) : ∀ kvs : List (κ × V), valV (kvs.map fun x => (g x.1, x.2)) (g k) = aget kvs k
  | [] => rfl
  | (j, v) :: r => by
    unfold aget
    rw [List.map_cons]
    by_cases c : j = k
    · rw [if_pos c]
      exact valV_pos (by rw [c])
    · rw [if_neg c, valV_neg (fun z => c (hg _ _ z))]
      exact valV_emb hg k r
theorem putK_emb (hg : ∀ a b, g a = g b → a = b) (k : κ) (w : V) (kvs : List (κ × V)) (hn : (kvs.map (·.1)).Nodup) : putK (kvs.map fun x => (g x.1, x.2)) (g k) w = (aput kvs k w).map fun x => (g x.1, x.2) := by
  cases q : aget kvs k with
  | none =>
    have qn : afind kvs k = none := by
      cases z : afind kvs k with
      | none => rfl
      | some j =>
        exfalso
        clear hn
        induction kvs generalizing j with
        | nil => cases z
        | cons p r ih =>
          obtain ⟨i, y⟩ := p
          unfold aget at q
          unfold afind at z
          by_cases c : i = k
          · rw [if_pos c] at q; cases q
          · rw [if_neg c] at q z
            cases z2 : afind r k with
            | none => rw [z2] at z; cases z
            | some l => exact ih q l z2
    rw [putK_new _ (by rw [valV_emb hg]; exact q), aput_none _ qn, List.map_append]
    rfl
  | some x =>
    unfold putK
    rw [if_pos (by rw [valV_any, valV_emb hg, q]; rfl)]
    revert q
    induction kvs with
    | nil => intro q; cases q
    | cons p r ih =>
      intro q
      obtain ⟨i, y⟩ := p
      simp only [List.map_cons, List.nodup_cons] at hn
      unfold aput
      unfold aget at q
      simp only [List.map_cons]
      by_cases c : i = k
      · subst c
        rw [if_pos rfl, if_pos rfl, List.map_cons]
        congr 1
        rw [List.map_map]
        apply List.map_congr_left
        intro z hz
        have : z.1 ≠ i := fun e => hn.1 (e ▸ List.mem_map_of_mem hz)
        simp only [Function.comp]
        rw [if_neg (fun e => this (hg _ _ e))]
      · rw [if_neg c] at q
        rw [if_neg (fun e => c (hg _ _ e)), if_neg c, List.map_cons]
        congr 1
        exact ih hn.2 q
end
theorem rd_same {F H : Hp} {p : Addr} {u : HO} (s : Same F H) (h : Rd F p u) : Rd H p u := by
  rcases h with h | ⟨o, h⟩
  · exact .inl (s _ _ h)
  · exact .inr ⟨o, s _ _ h⟩
def kdI : KeyD Int := ⟨tInt, fun kvs => .dK (kvs.map fun x => (ki x.1, x.2)), fun kvs s h r => by
  rw [show _ = _ from h, ← valV_emb (g := ki) (fun a b e => Sum.inl.inj e)]
  exact .inl ⟨_, ki _, r, rfl, rfl⟩, fun {K F H p v w k} kvs s h r n l => by
  rw [show _ = _ from h]
  have := DPut.k (k := ki k) (v := w) r (by simpa using l)
  rw [putK_emb (g := ki) (fun a b e => Sum.inl.inj e) _ _ _ n] at this
  exact this, fun kvs r => .inl ⟨_, r⟩⟩
def kdS : KeyD Str := ⟨tStr, fun kvs => .dK (kvs.map fun x => (Sum.inr x.1, x.2)), fun kvs s h r => by
  rw [show _ = _ from h, ← valV_emb (g := (Sum.inr : Str → Key)) (fun a b e => Sum.inr.inj e)]
  exact .inl ⟨_, Sum.inr _, r, rfl, rfl⟩, fun {K F H p v w k} kvs s h r n l => by
  rw [show _ = _ from h]
  have := DPut.k (k := (Sum.inr k : Key)) (v := w) r (by simpa using l)
  rw [putK_emb (g := (Sum.inr : Str → Key)) (fun a b e => Sum.inr.inj e) _ _ _ n] at this
  exact this, fun kvs r => .inl ⟨_, r⟩⟩
/-- tracked tuples of two, of three ints -/
def tK2 : Ty (Int × Int) := ⟨fun _ F v a => ∃ p, v = .ref p ∧ F p = some (.tup [.int a.1, .int a.2]), fun s ⟨p, e, h⟩ => ⟨p, e, s _ _ h⟩⟩
def tK3 : Ty (Int × Int × Int) := ⟨fun _ F v a => ∃ p, v = .ref p ∧ F p = some (.tup [.int a.1, .int a.2.1, .int a.2.2]), fun s ⟨p, e, h⟩ => ⟨p, e, s _ _ h⟩⟩
theorem k2_t2 : ∀ K F H v a, Same F H → tK2.rl.rel K F H v a → (tT2 tInt tInt).rl.rel K F H v a := fun K F H v a s ⟨p, e, h⟩ => ⟨p, _, _, e, SqT.of h, rfl, rfl⟩
theorem k3_t3 : ∀ K F H v a, Same F H → tK3.rl.rel K F H v a → (tT3 tInt tInt tInt).rl.rel K F H v a := fun K F H v a s ⟨p, e, h⟩ => ⟨p, _, _, _, e, SqT.of h, rfl, rfl, rfl⟩
def kdP : KeyD (Int × Int) := ⟨tK2, fun kvs => .dT (kvs.map fun x => ([ki x.1.1, ki x.1.2], x.2)), fun {K F H p v k} kvs s h r => by
  obtain ⟨q, e, hq⟩ := h
  rw [← valV_emb (g := fun x : Int × Int => [ki x.1, ki x.2]) (fun a b e => by simp only [List.cons.injEq, Sum.inl.injEq] at e; exact Prod.ext e.1 e.2.1)]
  exact .inr ⟨_, [ki k.1, ki k.2], q, r, e, s _ _ hq, rfl⟩, fun {K F H p v w k} kvs s h r n l => by
  obtain ⟨q, e, hq⟩ := h
  subst e
  have := DPut.t (k := [ki k.1, ki k.2]) (v := w) r (s _ _ hq) (by simpa using l)
  rw [putK_emb (g := fun x : Int × Int => [ki x.1, ki x.2]) (fun a b e => by simp only [List.cons.injEq, Sum.inl.injEq] at e; exact Prod.ext e.1 e.2.1) _ _ _ n] at this
  exact this, fun kvs r => .inr ⟨_, r⟩⟩
def kdT : KeyD (Int × Int × Int) := ⟨tK3, fun kvs => .dT (kvs.map fun x => ([ki x.1.1, ki x.1.2.1, ki x.1.2.2], x.2)), fun {K F H p v k} kvs s h r => by
  obtain ⟨q, e, hq⟩ := h
  rw [← valV_emb (g := fun x : Int × Int × Int => [ki x.1, ki x.2.1, ki x.2.2]) (fun a b e => by simp only [List.cons.injEq, Sum.inl.injEq] at e; exact Prod.ext e.1 (Prod.ext e.2.1 e.2.2.1))]
  exact .inr ⟨_, [ki k.1, ki k.2.1, ki k.2.2], q, r, e, s _ _ hq, rfl⟩, fun {K F H p v w k} kvs s h r n l => by
  obtain ⟨q, e, hq⟩ := h
  subst e
  have := DPut.t (k := [ki k.1, ki k.2.1, ki k.2.2]) (v := w) r (s _ _ hq) (by simpa using l)
  rw [putK_emb (g := fun x : Int × Int × Int => [ki x.1, ki x.2.1, ki x.2.2]) (fun a b e => by simp only [List.cons.injEq, Sum.inl.injEq] at e; exact Prod.ext e.1 (Prod.ext e.2.1 e.2.2.1)) _ _ _ n] at this
  exact this, fun kvs r => .inr ⟨_, r⟩⟩
/-- written tuples as keys -/
theorem we_k2 {e1 e2 : Expr} {m1 m2 : Out Int} {j : Nat} {pos : Pos} (h1 : WE X E B Γ e1 tInt.rl m1) (h2 : WE X E B Γ e2 tInt.rl m2) (s1 : starEach (e1 :: e2 :: []) X.env = (false, eval e1 X.env) :: starEach (e2 :: []) X.env := by rfl) (s2 : starEach (e2 :: []) X.env = (false, eval e2 X.env) :: starEach [] X.env := by rfl) :
    WE X E B Γ (.Tuple [e1, e2] j pos) tK2.rl (m1 >>= fun a => m2 >>= fun b => pure (a, b)) :=
  we_tupd (wa_cons h1 (fun a => wa_cons h2 (fun b => wa_nil fun K F H s v2 r2 v1 r1 => ⟨(a, b), rfl, by simp, fun p F' s e => ⟨p, rfl, by rw [e, show v1 = .int a from r1, show v2 = .int b from r2]⟩⟩) s2) s1)
theorem we_k3 {e1 e2 e3 : Expr} {m1 m2 m3 : Out Int} {j : Nat} {pos : Pos} (h1 : WE X E B Γ e1 tInt.rl m1) (h2 : WE X E B Γ e2 tInt.rl m2) (h3 : WE X E B Γ e3 tInt.rl m3) (s1 : starEach (e1 :: e2 :: e3 :: []) X.env = (false, eval e1 X.env) :: starEach (e2 :: e3 :: []) X.env := by rfl)
    (s2 : starEach (e2 :: e3 :: []) X.env = (false, eval e2 X.env) :: starEach (e3 :: []) X.env := by rfl) (s3 : starEach (e3 :: []) X.env = (false, eval e3 X.env) :: starEach [] X.env := by rfl) :
    WE X E B Γ (.Tuple [e1, e2, e3] j pos) tK3.rl (m1 >>= fun a => m2 >>= fun b => m3 >>= fun c => pure (a, b, c)) :=
  we_tupd (wa_cons h1 (fun a => wa_cons h2 (fun b => wa_cons h3 (fun c => wa_nil fun K F H s v3 r3 v2 r2 v1 r1 => ⟨(a, b, c), rfl, by simp, fun p F' s e => ⟨p, rfl, by rw [e, show v1 = .int a from r1, show v2 = .int b from r2, show v3 = .int c from r3]⟩⟩) s3) s2) s1)
/-- a dict whose values are own things -/
def oDi {κ α : Type} [DecidableEq κ] (KD : KeyD κ) (O : Own α) : Own (List (κ × α)) := ⟨fun K F H S v a => (a.map Prod.fst).Nodup ∧ (oBx (fun vs => KD.ho ((a.map Prod.fst).zip vs)) O).rel K F H S v (a.map Prod.snd),
  fun {K F H F' H' S v a} h sf k => ⟨h.1, (oBx _ O).keep h.2 sf k⟩⟩
section
variable {κ α : Type} [DecidableEq κ] {KD : KeyD κ} {O : Own α}
theorem zip_self {β : Type} : ∀ a : List (κ × β), (a.map Prod.fst).zip (a.map Prod.snd) = a
  | [] => rfl
  | (i, x) :: r => by simp only [List.map_cons, List.zip_cons_cons, zip_self r]
theorem zip_set {β γ : Type} : ∀ (xs : List β) (ys : List γ) (j : Nat) (x : β) (y : γ), (xs.zip ys).set j (x, y) = (xs.set j x).zip (ys.set j y)
  | [], _, _, _, _ => by simp
  | _ :: _, [], _, _, _ => by simp
  | a :: xs, b :: ys, 0, x, y => by simp
  | a :: xs, b :: ys, j + 1, x, y => by simp [zip_set xs ys j x y]
theorem di_len {a : List (κ × α)} {vs : List V} (h : vs.length = a.length) : ((a.map Prod.fst).zip vs).length = a.length := by simp [h]
/-- d[k] = a new own thing -/
theorem di_put {K : PySem.W.Frag} {F H : Hp} {S : Fp} {v : V} {a : List (κ × α)} (h : (oDi KD O).rel K F H S v a) : ∃ p kvs, v = .ref p ∧ S p ∧ H p = some (KD.ho kvs) ∧ kvs.length = a.length ∧ (kvs.map Prod.fst).Nodup ∧ (∀ k, aget a k = none → aget kvs k = none) ∧
    (∀ (k : κ) (j : Nat) (b : α), afind a k = some j → a[j]? = some (k, b) → ∃ w, aget kvs k = some w ∧ SubAt K F H S v (oDi KD O) O w b (fun x => a.set j (k, x))) ∧
    ∀ (k : κ) (F' H' : Hp) (s' : Fp) (w' : V) (b' : α), Same F F' → H' p = some (KD.ho (aput kvs k w')) → (∀ q, S q → q ≠ p → H' q = H q) → (∀ q, s' q → ¬ S q) → O.rel K F' H' s' w' b' → (oDi KD O).rel K F' H' (fun q => S q ∨ s' q) v (aput a k b') := by
  obtain ⟨n, r⟩ := h
  obtain ⟨p, vs, rfl, sp, hp, hl0, u0, u1, u2⟩ := bx_wr r
  have hl : vs.length = a.length := by simpa using hl0
  refine ⟨p, (a.map Prod.fst).zip vs, rfl, sp, hp, di_len hl, by rw [List.map_fst_zip (by simp [hl])]; exact n, fun k h => (afind_none_zip (as := a.map Prod.snd) (bs := vs) (by simp) (by simp [hl]) (by rw [zip_self]; exact afind_of_none h)).2, fun k j b e eb => ?_, fun k F' H' s' w' b' sf hp' kk hs' r' => ?_⟩
  · obtain ⟨w, ew, s, hs, r1, up⟩ := u0 j b (show (a.map Prod.snd)[j]? = some b by rw [List.getElem?_map, eb]; rfl)
    refine ⟨w, (aget_zip (ks := a.map Prod.fst) (as := a.map Prod.snd) (bs := vs) (by simp) (by simp [hl]) (by rw [zip_self]; exact e)).2 w ew, s, hs, r1, fun F' H' s' b' sf kk hs' r' => ?_⟩
    have hk : (a.set j (k, b')).map Prod.fst = a.map Prod.fst := aput_keys_some (x := b') e
    have q := up F' H' s' b' sf kk hs' r'
    have h2 : (a.set j (k, b')).map Prod.snd = (a.map Prod.snd).set j b' := by rw [List.map_set]
    show ((a.set j (k, b')).map Prod.fst).Nodup ∧ (oBx (fun vs => KD.ho (((a.set j (k, b')).map Prod.fst).zip vs)) O).rel K F' H' _ _ ((a.set j (k, b')).map Prod.snd)
    rw [hk, h2]
    exact ⟨n, q⟩
  show ((aput a k b').map Prod.fst).Nodup ∧ (oBx (fun vs => KD.ho (((aput a k b').map Prod.fst).zip vs)) O).rel K F' H' _ _ ((aput a k b').map Prod.snd)
  cases q : afind a k with
  | some j =>
    obtain ⟨x, hx⟩ := afind_lt q
    have hj : j < a.length := (List.getElem?_eq_some_iff.mp hx).1
    rw [aput_some _ q]
    have q2 := (aget_zip (ks := a.map Prod.fst) (as := a.map Prod.snd) (bs := vs) (by simp) (by simp [hl]) (by rw [zip_self]; exact q)).1
    rw [aput_some _ q2] at hp'
    have hk : (a.set j (k, b')).map Prod.fst = a.map Prod.fst := aput_keys_some (x := b') q
    have h2 : (a.set j (k, b')).map Prod.snd = (a.map Prod.snd).set j b' := by rw [List.map_set]
    rw [hk, h2]
    have ez : ((a.map Prod.fst).zip vs).set j (k, w') = (a.map Prod.fst).zip (vs.set j w') := by
      have hkj : k = (a.map Prod.fst)[j]'(by simpa using hj) := by
        have := (List.getElem?_eq_some_iff.mp hx).2
        simp [this]
      have e1 : a.map Prod.fst = (a.map Prod.fst).set j k := by
        conv => rhs; rw [hkj]
        rw [List.set_getElem_self]
      conv => rhs; rw [e1]
      exact zip_set _ _ _ _ _
    rw [ez] at hp'
    exact ⟨n, u1 (fun vs => KD.ho ((a.map Prod.fst).zip vs)) F' H' s' j w' b' (by simpa using hj) sf hp' kk hs' r'⟩
  | none =>
    rw [aput_none _ q]
    have q2 := (afind_none_zip (ks := a.map Prod.fst) (as := a.map Prod.snd) (bs := vs) (by simp) (by simp [hl]) (by rw [zip_self]; exact q)).1
    rw [aput_none _ q2] at hp'
    have ez : (a.map Prod.fst).zip vs ++ [(k, w')] = ((a ++ [(k, b')]).map Prod.fst).zip (vs ++ [w']) := by
      rw [List.map_append, List.zip_append (by simp [hl])]
      rfl
    rw [ez] at hp'
    refine ⟨?_, ?_⟩
    · rw [List.map_append]
      refine List.nodup_append.mpr ⟨n, by simp, fun x hx y hy => ?_⟩
      have : y = k := by simpa using hy
      subst this
      exact fun z => afind_no q (z ▸ hx)
    · have := u2 (fun vs => KD.ho (((a ++ [(k, b')]).map Prod.fst).zip vs)) F' H' s' w' b' sf hp' kk hs' r'
      rw [List.map_append (f := Prod.snd)]
      exact this
end
end SL

set_option Elab.async false
set_option linter.all false
set_option maxRecDepth 100000
set_option maxHeartbeats 2000000
/-! SLu: dicts read; ways into own things; stores there. -/
namespace SL
open PySem PySem.Spec PyProof.Rows L2
variable {X : Cx} {N : List Str} {sc : Scp} {k : Nat} {E : XK} {B : Bs} {Γ : List Slot}

/-! ### dicts read -/
section
variable {κ α : Type} [DecidableEq κ] {KD : KeyD κ} {O : Own α}
theorem vw_di {K : PySem.W.Frag} {F H : Hp} {v : V} {a : List (κ × α)} (h : (oDi KD O).vw.rel K F H v a) : ∃ p kvs, v = .ref p ∧ H p = some (KD.ho kvs) ∧ kvs.length = a.length ∧ (∀ k, aget a k = none → aget kvs k = none) ∧ ∀ (k : κ) (b : α), aget a k = some b → ∃ w, aget kvs k = some w ∧ O.vw.rel K F H w b := by
  obtain ⟨S, n, r⟩ := h
  obtain ⟨p, kvs, e, sp, hp, hl, _, hn, hs, _⟩ := di_put r
  refine ⟨p, kvs, e, hp, hl, hn, fun k b hb => ?_⟩
  obtain ⟨j, h1, h2⟩ := aget_find hb
  obtain ⟨w, hw, s, hs, r1, _⟩ := hs k j b h1 h2
  exact ⟨w, hw, s, fun q hq => n q (hs q hq), r1⟩
section
variable {e1 e2 : Expr} {m : Out (List (κ × α))} {mk : Out κ} {pos : Pos}
/-- d[k] -/
theorem we_vdget (C : XC X N sc k E) (h1 : WE X E B Γ e1 (oDi KD O).vw m) (h2 : WE X E B Γ e2 KD.T.rl mk) (hs : NoSl e2 := by intro _ _; rfl) : WE X E B Γ (.Subscript e1 e2 pos) O.vw (m >>= fun a => mk >>= fun i => agetO a i) := fun σ F H ω Q en q => by
  refine ⟨_, pe_dget (hu1 C) pe_s pe_s hs, ?_⟩
  refine h1 σ F H ω _ en (q.bind.imp fun a q v F1 H1 s1 r1 => ?_)
  refine h2 σ F1 H1 ω _ (en.stp s1) (q.bind.imp fun i q y F2 H2 s2 ry => ?_)
  obtain ⟨p, kvs, e, hp, _, _, hg⟩ := vw_di ((oDi KD O).vw.mono s2 r1)
  unfold agetO at q
  cases hq : aget a i with
  | none => rw [hq] at q; exact q.elim
  | some b =>
    rw [hq] at q
    obtain ⟨w, hw, rw'⟩ := hg i b hq
    exact ⟨p, w, e, by rw [← hw]; exact KD.get kvs s2.fh ry (.inl hp), q w F2 H2 (s1.trans s2) rw'⟩
/-- d.get(k, x) of a dict of fixed things -/
theorem we_vgetd (C : XC X N sc k E) {T : Ty α} {e3 : Expr} {mx : Out α} {apos cpos : Pos} (h1 : WE X E B Γ e1 (oDi KD (im T)).vw m) (h2 : WE X E B Γ e2 KD.T.rl mk) (h3 : WE X E B Γ e3 T.rl mx) (hM : M2 X e1 "get" apos e2 e3 cpos := by exact ⟨rfl, rfl, rfl, rfl⟩) :
    WE X E B Γ (.Call (.Attribute e1 "get" apos) [e2, e3] [] cpos) T.rl (m >>= fun a => mk >>= fun i => mx >>= fun x => pure ((aget a i).getD x)) := fun σ F H ω Q en q => by
  refine ⟨_, pe_dget2 (hu1 C) pe_s pe_s pe_s hM, ?_⟩
  refine h1 σ F H ω _ en (q.bind.imp fun a q v F1 H1 s1 r1 => ?_)
  obtain ⟨p0, kvs0, e0, hp0, _⟩ := vw_di r1
  refine ⟨p0, e0, KD.isD kvs0 (.inl hp0), ?_⟩
  refine h2 σ F1 H1 ω _ (en.stp s1) (q.bind.imp fun i q y F2 H2 s2 ry => ?_)
  refine h3 σ F2 H2 ω _ ((en.stp s1).stp s2) (q.bind.imp fun x q z F3 H3 s3 rz => ?_)
  obtain ⟨p, kvs, e, hp, _, hn, hg⟩ := vw_di ((oDi KD (im T)).vw.mono (s2.trans s3) r1)
  rw [e0] at e
  cases e
  refine ⟨aget kvs i, KD.get kvs s3.fh (KD.T.mono s3.ff ry) (.inl hp), ?_⟩
  cases hq : aget a i with
  | none =>
    rw [hq] at q
    rw [hn i hq]
    exact q z F3 H3 ((s1.trans s2).trans s3) rz
  | some b =>
    rw [hq] at q
    obtain ⟨w, hw, _, _, rw'⟩ := hg i b hq
    rw [hw]
    exact q w F3 H3 ((s1.trans s2).trans s3) rw'
/-- k in d -/
theorem we_vin (C : XC X N sc k E) (h1 : WE X E B Γ e2 KD.T.rl mk) (h2 : WE X E B Γ e1 (oDi KD O).vw m) (hm : behindInMarks .In e1 = false := by with_unfolding_all rfl) : WE X E B Γ (.Compare e2 [.In] [e1] pos) tBool.rl (mk >>= fun i => m >>= fun a => pure (aget a i).isSome) := fun σ F H ω Q en q => by
  refine ⟨_, pe_cmp (pc_din (hu1 C) pe_s pe_s) hm, ?_⟩
  refine h1 σ F H ω _ en (q.bind.imp fun i q y F1 H1 s1 ry => ?_)
  refine h2 σ F1 H1 ω _ (en.stp s1) (q.bind.imp fun a q v F2 H2 s2 r2 => ?_)
  obtain ⟨p, kvs, e, hp, _, hn, hg⟩ := vw_di r2
  refine ⟨p, aget kvs i, e, KD.get kvs s2.fh (KD.T.mono s2.ff ry) (.inl hp), ?_⟩
  have : (aget kvs i).isSome = (aget a i).isSome := by
    cases hq : aget a i with
    | none => rw [hn i hq] <;> rfl
    | some b =>
      obtain ⟨w, hw, _⟩ := hg i b hq
      rw [hw]; rfl
  rw [this]
  exact q _ F2 H2 (s1.trans s2) rfl
theorem wt_vin (C : XC X N sc k E) (h1 : WE X E B Γ e2 KD.T.rl mk) (h2 : WE X E B Γ e1 (oDi KD O).vw m) (hm : behindInMarks .In e1 = false := by with_unfolding_all rfl) : WT X E B Γ (.Compare e2 [.In] [e1] pos) (mk >>= fun i => m >>= fun a => pure (aget a i).isSome) := fun σ F H ω Q en q => by
  refine ⟨_, pt_cmp (pc_din (hu1 C) pe_s pe_s) hm, ?_⟩
  refine h1 σ F H ω _ en (q.bind.imp fun i q y F1 H1 s1 ry => ?_)
  refine h2 σ F1 H1 ω _ (en.stp s1) (q.bind.imp fun a q v F2 H2 s2 r2 => ?_)
  obtain ⟨p, kvs, e, hp, _, hn, hg⟩ := vw_di r2
  refine ⟨p, aget kvs i, e, KD.get kvs s2.fh (KD.T.mono s2.ff ry) (.inl hp), ?_⟩
  have : (aget kvs i).isSome = (aget a i).isSome := by
    cases hq : aget a i with
    | none => rw [hn i hq] <;> rfl
    | some b =>
      obtain ⟨w, hw, _⟩ := hg i b hq
      rw [hw]; rfl
  rw [this]
  exact ⟨_, rfl, q F2 H2 (s1.trans s2)⟩
theorem wt_vnin (C : XC X N sc k E) (h1 : WE X E B Γ e2 KD.T.rl mk) (h2 : WE X E B Γ e1 (oDi KD O).vw m) (hm : behindInMarks .NotIn e1 = false := by with_unfolding_all rfl) : WT X E B Γ (.Compare e2 [.NotIn] [e1] pos) (mk >>= fun i => m >>= fun a => pure (!(aget a i).isSome)) := fun σ F H ω Q en q => by
  refine ⟨_, pt_cmp (pc_dnotin (hu1 C) pe_s pe_s) hm, ?_⟩
  refine h1 σ F H ω _ en (q.bind.imp fun i q y F1 H1 s1 ry => ?_)
  refine h2 σ F1 H1 ω _ (en.stp s1) (q.bind.imp fun a q v F2 H2 s2 r2 => ?_)
  obtain ⟨p, kvs, e, hp, _, hn, hg⟩ := vw_di r2
  refine ⟨p, aget kvs i, e, KD.get kvs s2.fh (KD.T.mono s2.ff ry) (.inl hp), ?_⟩
  have : (aget kvs i).isSome = (aget a i).isSome := by
    cases hq : aget a i with
    | none => rw [hn i hq] <;> rfl
    | some b =>
      obtain ⟨w, hw, _⟩ := hg i b hq
      rw [hw]; rfl
  rw [this]
  exact ⟨_, rfl, q F2 H2 (s1.trans s2)⟩
end
end

/-! ### ways into own things -/
/-- known to be at u -/
def oIs (u : V) {α : Type} (O : Own α) : Own α := ⟨fun K F H S v a => v = u ∧ O.rel K F H S v a, fun ⟨e, r⟩ s k => ⟨e, O.keep r s k⟩⟩
def WL (X : Cx) (E : XK) (B : Bs) (Γ : List Slot) (i : Nat) (e : Expr) {α β : Type} (O : Own α) (O' : Own β) (m : Out (β × (β → α))) : Prop :=
  ∀ σ F H ω Q, EnvOk X.K B Γ σ F H ω → Post m (fun r => ∀ v w F' H', Stp F H F' H' → σ[i]? = some (some v) → SubAt X.K F' H' (fun p => ω p = some i) v O O' w r.1 r.2 → Q w H') (RB X.K B E) → sE X e σ H Q
theorem WL.cast {i : Nat} {e : Expr} {α β : Type} {O : Own α} {O' : Own β} {m m' : Out (β × (β → α))} (h : WL X E B Γ i e O O' m) (q : m = m') : WL X E B Γ i e O O' m' := q ▸ h
theorem wl_var (C : XC X N sc k E) (i : Nat) {x : Str} {pos : Pos} {α : Type} {O : Own α} {a : α} (hΓ : Γ[i]? = some (.on α O a) := by rfl) (hN : N[i]? = some x := by rfl) (hv : Vis sc.sc x := by first | exact Or.inl rfl | exact Or.inr (Or.inl rfl) | exact Or.inr (Or.inr rfl))
    (hd : (x == ("__debug__" : Str)) = false := by decide) (hcd : (x == ("__classdict__" : Str)) = false := by decide) : WL X E B Γ i (.Name x pos) O O (pure (a, fun b => b)) := fun σ F H ω Q e p => by
  obtain ⟨v, hs, r⟩ := e.slot i _ hΓ
  exact ⟨_, pv_ C hN hv hd hcd, v, join_some hs, p v v F H (Stp.refl e.fh) (join_some hs) (SubAt.refl r)⟩
theorem wl_is (C : XC X N sc k E) (i : Nat) {x : Str} {pos : Pos} {α : Type} {O : Own α} {u : V} {a : α} (hΓ : Γ[i]? = some (.on α (oIs u O) a) := by rfl) (hN : N[i]? = some x := by rfl) (hv : Vis sc.sc x := by first | exact Or.inl rfl | exact Or.inr (Or.inl rfl) | exact Or.inr (Or.inr rfl))
    (hd : (x == ("__debug__" : Str)) = false := by decide) (hcd : (x == ("__classdict__" : Str)) = false := by decide) : WL X E B Γ i (.Name x pos) (oIs u O) O (pure (a, fun b => b)) := fun σ F H ω Q e p => by
  obtain ⟨v, hs, hu, r⟩ := e.slot i _ hΓ
  refine ⟨_, pv_ C hN hv hd hcd, v, join_some hs, p v v F H (Stp.refl e.fh) (join_some hs) ?_⟩
  obtain ⟨s, h1, h2, h3⟩ := SubAt.refl r
  exact ⟨s, h1, h2, fun F' H' s' b' sf kk hs' r' => ⟨hu, h3 F' H' s' b' sf kk hs' r'⟩⟩
/-- an index, a key further -/
def subO {α β : Type} (r : List β × (List β → α)) (i : Int) : Out (β × (β → α)) := match ixN r.1.length i with
  | none => .stuck
  | some j => match r.1[j]? with
    | none => .stuck
    | some b => pure (b, fun x => r.2 (r.1.set j x))
def subD {κ α β : Type} [DecidableEq κ] (r : List (κ × β) × (List (κ × β) → α)) (k : κ) : Out (β × (β → α)) := match afind r.1 k with
  | none => .stuck
  | some j => match r.1[j]? with
    | none => .stuck
    | some b => pure (b.2, fun x => r.2 (r.1.set j (k, x)))
section
variable {α β κ : Type} [DecidableEq κ] {KD : KeyD κ} {O : Own α} {O' : Own β} {i : Nat} {e1 e2 : Expr} {m : Out (List β × (List β → α))} {md : Out (List (κ × β) × (List (κ × β) → α))} {mi : Out Int} {mk : Out κ} {pos : Pos}
theorem sub_stp {K : PySem.W.Frag} {Γ : List Slot} {σ : L2.St} {F H F' H' F2 H2 : Hp} {ω : Ow} {v w : V} {α β : Type} {O : Own α} {O' : Own β} {b : β} {put : β → α} (en : EnvOk K B Γ σ F H ω) (s : Stp F' H' F2 H2) (s0 : Stp F H F' H') (h : SubAt K F' H' (fun p => ω p = some i) v O O' w b put) :
    SubAt K F2 H2 (fun p => ω p = some i) v O O' w b put := h.keep s.ff fun q hq => same_at s.hh (same_ne s0.hh (en.own q i hq).2.1)
theorem wl_ixL (h1 : WL X E B Γ i e1 O (oL O') m) (h2 : WE X E B Γ e2 tInt.rl mi) (hs : PlainIx e2 := by intro _ _; rfl) : WL X E B Γ i (.Subscript e1 e2 pos) O O' (m >>= fun r => mi >>= fun j => subO r j) := fun σ F H ω Q en p => by
  refine ⟨_, pe_ix ix_list pe_s pe_s hs, ?_⟩
  refine h1 σ F H ω _ en (p.bind.imp fun r q v w F1 H1 s1 hv sb => ?_)
  refine h2 σ F1 H1 ω _ (en.stp s1) (q.bind.imp fun j q y F2 H2 s2 ry => ?_)
  have sb2 := sub_stp en s2 s1 sb
  unfold subO at q
  cases hj : ixN r.1.length j with
  | none => rw [hj] at q; exact q.elim
  | some n =>
    simp only [hj] at q
    cases hb : r.1[n]? with
    | none => rw [hb] at q; exact q.elim
    | some b =>
      rw [hb] at q
      obtain ⟨s, hs, r1, up⟩ := sb2
      obtain ⟨p, vs, u, e, sp, hp, hl, hu, hsb⟩ := bx_sub r1 hb
      refine ⟨p, vs, j, u, e, ry, SqL.of hp, by unfold atI; rw [hl, hj]; exact hu, ?_⟩
      refine q v u F2 H2 (s1.trans s2) hv ?_
      exact SubAt.trans (put := r.2) (put2 := fun x => r.1.set n x) hs up hsb
theorem wl_ixT (h1 : WL X E B Γ i e1 O (oTu O') m) (h2 : WE X E B Γ e2 tInt.rl mi) (hs : PlainIx e2 := by intro _ _; rfl) : WL X E B Γ i (.Subscript e1 e2 pos) O O' (m >>= fun r => mi >>= fun j => subO r j) := fun σ F H ω Q en p => by
  refine ⟨_, pe_ix ix_tup pe_s pe_s hs, ?_⟩
  refine h1 σ F H ω _ en (p.bind.imp fun r q v w F1 H1 s1 hv sb => ?_)
  refine h2 σ F1 H1 ω _ (en.stp s1) (q.bind.imp fun j q y F2 H2 s2 ry => ?_)
  have sb2 := sub_stp en s2 s1 sb
  unfold subO at q
  cases hj : ixN r.1.length j with
  | none => rw [hj] at q; exact q.elim
  | some n =>
    simp only [hj] at q
    cases hb : r.1[n]? with
    | none => rw [hb] at q; exact q.elim
    | some b =>
      rw [hb] at q
      obtain ⟨s, hs, r1, up⟩ := sb2
      obtain ⟨p, vs, u, e, sp, hp, hl, hu, hsb⟩ := bx_sub r1 hb
      refine ⟨p, vs, j, u, e, ry, SqT.of hp, by unfold atI; rw [hl, hj]; exact hu, ?_⟩
      refine q v u F2 H2 (s1.trans s2) hv ?_
      exact SubAt.trans (put := r.2) (put2 := fun x => r.1.set n x) hs up hsb
theorem wl_dget (C : XC X N sc k E) (h1 : WL X E B Γ i e1 O (oDi KD O') md) (h2 : WE X E B Γ e2 KD.T.rl mk) (hs : NoSl e2 := by intro _ _; rfl) : WL X E B Γ i (.Subscript e1 e2 pos) O O' (md >>= fun r => mk >>= fun j => subD r j) := fun σ F H ω Q en p => by
  refine ⟨_, pe_dget (hu1 C) pe_s pe_s hs, ?_⟩
  refine h1 σ F H ω _ en (p.bind.imp fun r q v w F1 H1 s1 hv sb => ?_)
  refine h2 σ F1 H1 ω _ (en.stp s1) (q.bind.imp fun kk q y F2 H2 s2 ry => ?_)
  have sb2 := sub_stp en s2 s1 sb
  unfold subD at q
  cases hj : afind r.1 kk with
  | none => rw [hj] at q; exact q.elim
  | some n =>
    simp only [hj] at q
    obtain ⟨x, hx⟩ := afind_lt hj
    rw [hx] at q
    obtain ⟨s, hs, r1, up⟩ := sb2
    obtain ⟨p, kvs, e, sp, hp, hl, hnd, hn, hsub, _⟩ := di_put r1
    obtain ⟨u, hu, hsb⟩ := hsub kk n x hj hx
    refine ⟨p, u, e, by rw [← hu]; exact KD.get kvs s2.fh ry (.inl hp), ?_⟩
    refine q v u F2 H2 (s1.trans s2) hv ?_
    exact SubAt.trans (put := r.2) (put2 := fun x => r.1.set n (kk, x)) hs up hsb
end

/-! ### stores there -/
theorem env_mut2 {K : PySem.W.Frag} {Γ : List Slot} {σ : L2.St} {F H H' : Hp} {ω : Ow} {i : Nat} {v : V} (s : Slot) (S' : Addr → Prop) (e : EnvOk K B Γ σ F H ω) (hv : σ[i]? = some (some v))
    (h1 : ∀ p, H p ≠ none → ω p ≠ some i → H' p = H p) (h2 : ∀ p, H p ≠ none → H' p ≠ none) (hS : ∀ p, S' p → F p = none ∧ H' p ≠ none ∧ (ω p = some i ∨ (ω p = none ∧ B.H p = none))) (r : s.ok K F H' S' (some v)) :
    ∃ ω', (∀ p, ω' p = some i ↔ S' p) ∧ EnvOk K B (Γ.set i s) σ F H' ω' := by
  classical
  have hn : ∀ p, ω p = some i → F p = none := fun p hp => (e.own p i hp).1
  have hω : ∀ p, (if S' p then some i else if ω p = some i then none else ω p) = some i ↔ S' p := fun p => by
    by_cases c : S' p
    · simp [c]
    · by_cases c2 : ω p = some i <;> simp [c, c2]
  have hj : ∀ p j, i ≠ j → ((if S' p then some i else if ω p = some i then none else ω p) = some j ↔ ω p = some j) := fun p j hij => by
    by_cases c : S' p
    · simp only [if_pos c]
      constructor
      · exact fun z => absurd (Option.some.inj z) hij
      · intro z
        rcases (hS p c).2.2 with q | q
        · rw [q] at z
          exact absurd (Option.some.inj z) hij
        · rw [q.1] at z
          cases z
    · simp only [if_neg c]
      by_cases c2 : ω p = some i
      · simp only [if_pos c2, c2]
        exact ⟨(fun z => nomatch z), fun z => absurd (Option.some.inj z) hij⟩
      · simp only [if_neg c2]
  refine ⟨fun p => if S' p then some i else if ω p = some i then none else ω p, hω, ⟨e.base.ff, fun a u h => ?_, fun a u h n => ?_, fun a h => h2 a (e.base.there a h), e.base.old⟩, by rw [List.length_set, e.len], fun p j h => ?_, fun j t h => ?_⟩
  · have hh := e.base.fh a u h
    rw [h1 a (by rw [hh]; exact fun z => nomatch z) (fun z => by rw [hn a z] at h; cases h)]
    exact hh
  · have hh := e.base.hh a u h n
    rw [h1 a (by rw [hh]; exact fun z => nomatch z) (fun z => by
      rcases (e.own a i z).2.2 with q | q
      · rw [q] at h; cases h
      · exact n q)]
    exact hh
  · by_cases hij : i = j
    · subst hij
      obtain ⟨x, y, z⟩ := hS p ((hω p).mp h)
      refine ⟨x, y, ?_⟩
      rcases z with z | z
      · exact (e.own p i z).2.2
      · exact .inl z.2
    · have h' := (hj p j hij).mp h
      obtain ⟨x, y, z⟩ := e.own p j h'
      exact ⟨x, h2 p y, z⟩
  · by_cases hij : i = j
    · subst hij
      have hi : i < Γ.length := by
        have := (List.getElem?_eq_some_iff.mp h).1
        rwa [List.length_set] at this
      rw [List.getElem?_set_self hi] at h
      cases h
      rw [hv]
      exact slot_iff r hω
    · rw [List.getElem?_set_ne hij] at h
      refine slot_iff (Slot.keep (e.slot j t h) (Same.refl F) fun p hp => h1 p (e.own p j hp).2.1 fun z => ?_) fun p => hj p j hij
      rw [z] at hp
      exact hij (Option.some.inj hp)
/-- an own list there is written -/
theorem env_subL {K : PySem.W.Frag} {Γ : List Slot} {σ : L2.St} {F H : Hp} {ω : Ow} {i : Nat} {v w : V} {α γ : Type} {O : Own α} {T : Ty γ} {b : List γ} {put : List γ → α} (e : EnvOk K B Γ σ F H ω) (hv : σ[i]? = some (some v)) (h : SubAt K F H (fun p => ω p = some i) v O (oLst T) w b put) :
    ∃ l vs, w = .ref l ∧ H l = some (.lst vs) ∧ Fa2 (T.rel K F) vs b ∧ ∀ vs' b', Fa2 (T.rel K F) vs' b' → ∃ ω', EnvOk K B (Γ.set i (.on α O (put b'))) σ F (upd H l (.lst vs')) ω' := by
  obtain ⟨s, hs, ⟨l, vs, e1, sl, hl, r⟩, up⟩ := h
  refine ⟨l, vs, e1, hl, r, fun vs' b' r' => ?_⟩
  have q := up F (upd H l (.lst vs')) s b' (Same.refl F) (fun q _ n => upd_ne fun z => n (z ▸ sl)) (fun q h => .inl h) ⟨l, vs', e1, sl, upd_same, r'⟩
  obtain ⟨ω', _, en⟩ := env_mut2 (.on α O (put b')) _ e hv (H' := upd H l (.lst vs')) (fun p _ hp => upd_ne fun z => hp (hs p (z ▸ sl))) (fun p hp => by
    by_cases c : p = l
    · rw [c, upd_same]; exact fun z => nomatch z
    · rw [upd_ne c]; exact hp) (fun p hp => by
    have hi : ω p = some i := hp.elim (fun z => z.1) (hs p)
    obtain ⟨x, y, _⟩ := e.own p i hi
    refine ⟨x, ?_, .inl hi⟩
    by_cases c : p = l
    · rw [c, upd_same]; exact fun z => nomatch z
    · rw [upd_ne c]; exact y) ⟨v, rfl, q⟩
  exact ⟨ω', en⟩
section
variable {γ β : Type} {D : γ → SOut} {b : List Stmt} {bs : List (List Stmt)} {p2 p3 pos : Pos} {e eP ei : Expr} {α : Type} {O : Own α} {δ : Type} {T : Ty δ} {me : Out δ} {mi : Out Int} {mP : Out (List δ × (List δ → α))} {f : List δ × (List δ → α) → List δ → Out γ}
/-- P[i] = e, a list -/
theorem ws_lset (i : Nat) (h : WE X E B Γ e T.rl me) (hP : WL X E B Γ i eP O (oLst T) mP) (hi : WE X E B Γ ei tInt.rl mi) (hr : ∀ r l, WS X E B (Γ.set i (.on α O (r.2 l))) (b :: bs) (f r l) D)
    (ha : ∀ v, assign (.Subscript eP ei p2) X.env v = (do
      let ov ← holding [v] (eval eP X.env)
      let iv ← holding [v, ov] (eval ei X.env)
      standAt p2
      holding [v, ov, iv] (setItem ov iv v)
      release [v, ov, iv] []) := by intro _; rfl)
    (hs : swapsWithSole [.Subscript eP ei p2] e pos.line X.env = pure false := by rfl) (hw : swappedStores [.Subscript eP ei p2] e X.env = pure none := by rfl) (h1 : (assignEach [.Subscript eP ei p2] X.env).map (·.2) = [assign (.Subscript eP ei p2) X.env] := by rfl) :
    WS X E B Γ ((.Assign [.Subscript eP ei p2] e pos :: b) :: bs) (me >>= fun a => mP >>= fun r => mi >>= fun j => setO r.1 j a >>= fun l => f r l) D := fun σ F H ω En en q => by
  refine sK_cons ⟨_, ps_asg pe_s (pg_sub pe_s pe_s set_list ha) hs hw h1, ?_⟩
  refine h σ F H ω _ en (q.bind.imp fun a q v F1 H1 s1 ra => ?_)
  have en1 := en.stp s1
  refine hP σ F1 H1 ω _ en1 (q.bind.imp fun r q v0 w F2 H2 s2 hv sb => ?_)
  have en2 := en1.stp s2
  refine hi σ F2 H2 ω _ en2 (q.bind.imp fun j q v2 F3 H3 s3 rj => ?_)
  have en3 := en2.stp s3
  obtain ⟨l, vs, e1, hl, rr, up⟩ := env_subL en3 hv (sub_stp en1 s3 s2 sb)
  subst e1
  unfold setO ixO at q
  cases hj : ixN r.1.length j with
  | none => rw [hj] at q; exact q.elim
  | some n =>
    rw [hj] at q
    refine ⟨l, vs, j, n, rfl, rj, hl, by rw [rr.len]; exact hj, ?_⟩
    obtain ⟨ω', en'⟩ := up _ _ (rr.set (T.mono (s2.ff.trans s3.ff) ra) n)
    exact hr r _ σ F3 _ ω' En en' (Post.imp q fun b z => EndOk.up z ((s1.ff.trans s2.ff).trans s3.ff))
/-- P.append(e) -/
theorem ws_lapp (i : Nat) (hP : WL X E B Γ i eP O (oLst T) mP) (h : WE X E B Γ e T.rl me) (hr : ∀ r l, WS X E B (Γ.set i (.on α O (r.2 l))) (b :: bs) (f r l) D)
    (hbase : attributeBase eP "append" X.env (eval eP X.env) = eval eP X.env := by rfl)
    (hfew : ((backTo p3 (starEach (e :: []) X.env)).all (fun x => !x.1) && (backToKw p3 (keywordEach [] X.env)).all (fun x => x.1.isSome) && decide ((e :: []).length + ([] : List Keyword).length + (if ([] : List Keyword).isEmpty then 0 else 1) < 30)) = true := by rfl)
    (hline : (p2.endLine == p3.line) = true := by rfl) (hs : starEach (e :: []) X.env = (false, eval e X.env) :: starEach [] X.env := by rfl) (hsw : swapsWith (.Call (.Attribute eP "append" p2) [e] [] p3) none pos.line X.env = pure false := by rfl) :
    WS X E B Γ ((.Expr (.Call (.Attribute eP "append" p2) [e] [] p3) pos :: b) :: bs) (mP >>= fun r => me >>= fun a => appO r.1 a >>= fun l => f r l) D := fun σ F H ω En en q => by
  refine sK_cons ⟨_, ps_expr (pe_bm PySem.F.plainAttrs_list PySem.F.slot_list_append PySem.F.type_list_append mt_append pe_s (pa_cons pe_s pa_nil hs) hbase hfew hline hs) hsw, ?_⟩
  refine hP σ F H ω _ en (q.bind.imp fun r q v0 w F1 H1 s1 hv sb => ?_)
  have en1 := en.stp s1
  obtain ⟨l0, vs0, e0, hl0, _⟩ := env_subL en1 hv sb
  subst e0
  refine ⟨.inl ⟨rfl, _, SqL.of hl0⟩, h σ F1 H1 ω _ en1 (q.bind.imp fun a q v F2 H2 s2 ra => ?_)⟩
  have en2 := en1.stp s2
  obtain ⟨l, vs, e1, hl, rr, up⟩ := env_subL en2 hv (sub_stp en s2 s1 sb)
  cases e1
  unfold appO at q
  by_cases c : r.1.length < 16777216
  · rw [if_pos c] at q
    refine ⟨l0, vs, v, rfl, rfl, hl, by rw [rr.len, sizeLine_eq]; exact c, ?_⟩
    obtain ⟨ω', en'⟩ := up _ _ (rr.app (.cons ra .nil))
    exact hr r _ σ F2 _ ω' En en' (Post.imp q fun b z => EndOk.up z (s1.ff.trans s2.ff))
  · rw [if_neg c] at q
    exact q.elim
end
/-- a fixed thing as a new one -/
theorem WE.wo {e : Expr} {α : Type} {T : Ty α} {m : Out α} (h : WE X E B Γ e T.rl m) : WO X E B Γ e (im T) m := fun σ F H ω Q en p =>
  h σ F H ω Q en (p.imp fun a q v F' H' s r => q v F' H' (fun _ => False) s (fun p hp => hp.elim) r)
section
variable {γ : Type} {D : γ → SOut} {b : List Stmt} {bs : List (List Stmt)} {p2 p3 pos : Pos} {e eP ek : Expr} {α δ κ : Type} [DecidableEq κ] {KD : KeyD κ} {O : Own α} {O' : Own δ} {me : Out δ} {mk : Out κ} {mP : Out (List (κ × δ) × (List (κ × δ) → α))} {f : List (κ × δ) × (List (κ × δ) → α) → List (κ × δ) → Out γ}
/-- P[k] = e, a dict -/
theorem ws_lput (C : XC X N sc k E) (i : Nat) (h : WO X E B Γ e O' me) (hP : WL X E B Γ i eP O (oDi KD O') mP) (hk : WE X E B Γ ek KD.T.rl mk) (hr : ∀ r l, WS X E B (Γ.set i (.on α O (r.2 l))) (b :: bs) (f r l) D)
    (hs : swapsWith e (some (.Subscript eP ek p2)) pos.line X.env = pure false := by rfl) :
    WS X E B Γ ((.Assign [.Subscript eP ek p2] e pos :: b) :: bs) (me >>= fun a => mP >>= fun r => mk >>= fun j => aputO r.1 j a >>= fun l => f r l) D := fun σ F H ω En en q => by
  refine sK_cons ⟨_, ps_dput (hu1 C) pe_s pe_s pe_s hs, ?_⟩
  refine h σ F H ω _ en (q.bind.imp fun a q v F1 H1 S1 s1 d1 ra => ?_)
  have en1 := en.stp s1
  have nk := new_ok en s1 d1
  refine hP σ F1 H1 ω _ en1 (q.bind.imp fun r q v0 w F2 H2 s2 hv sb => ?_)
  have en2 := en1.stp s2
  refine hk σ F2 H2 ω _ en2 (q.bind.imp fun j q v2 F3 H3 s3 rj => ?_)
  have en3 := en2.stp s3
  have s23 := s2.trans s3
  obtain ⟨s, hs, r1, up⟩ := sub_stp en1 s3 s2 sb
  obtain ⟨l, kvs, e1, sl, hl, hlen, hnd, _, _, put⟩ := di_put r1
  subst e1
  unfold aputO at q
  by_cases c : r.1.length < 16777216
  · rw [if_pos c] at q
    refine ⟨l, _, rfl, KD.put kvs s3.fh rj hl hnd (by rw [hlen, sizeLine_eq]; exact c), ?_⟩
    have nl : ∀ q, S1 q → q ≠ l := fun q hq z => by
      have : ω l = some i := hs l sl
      rw [← z, (nk q hq).2.2.1] at this
      cases this
    have hS1 : ∀ q, S1 q → ¬ s q := fun q hq z => by
      have : ω q = some i := hs q z
      rw [(nk q hq).2.2.1] at this
      cases this
    have keepS1 : ∀ q, S1 q → upd H3 l (KD.ho (aput kvs j v)) q = H1 q := fun q hq => by
      rw [upd_ne (nl q hq)]
      exact same_at s23.hh (nk q hq).2.1
    have q1 := put j F3 (upd H3 l (KD.ho (aput kvs j v))) S1 v a (Same.refl F3) upd_same (fun q _ n => upd_ne n) hS1 (O'.keep ra s23.ff keepS1)
    have q2 := up F3 (upd H3 l (KD.ho (aput kvs j v))) _ _ (Same.refl F3) (fun q _ n => upd_ne fun z => n (z ▸ sl)) (fun q hq => hq.elim .inl fun z => .inr fun (y : ω q = some i) => by
      rw [(nk q z).2.2.1] at y
      cases y) q1
    obtain ⟨ω', _, en'⟩ := env_mut2 (.on α O (r.2 (aput r.1 j a))) _ en3 hv (H' := upd H3 l (KD.ho (aput kvs j v))) (fun p _ hp => upd_ne fun z => hp (hs p (z ▸ sl))) (fun p hp => by
      by_cases c : p = l
      · rw [c, upd_same]; exact fun z => nomatch z
      · rw [upd_ne c]; exact hp) (fun p hp => by
      have hcase : ω p = some i ∨ S1 p := by
        rcases hp with z | z | z
        · exact .inl z.1
        · exact .inl (hs p z)
        · exact .inr z
      rcases hcase with hi | hi
      · obtain ⟨x, y, _⟩ := en3.own p i hi
        refine ⟨x, ?_, .inl hi⟩
        by_cases c : p = l
        · rw [c, upd_same]; exact fun z => nomatch z
        · rw [upd_ne c]; exact y
      · obtain ⟨x1, x2, x3, x4⟩ := nk p hi
        exact ⟨s23.old p x1 x2, by rw [keepS1 p hi]; exact x2, .inr ⟨x3, x4⟩⟩) ⟨v0, rfl, q2⟩
    exact hr r _ σ F3 _ ω' En en' (Post.imp q fun b z => EndOk.up z ((s1.ff.trans s2.ff).trans s3.ff))
  · rw [if_neg c] at q
    exact q.elim
end
/-- {} -/
theorem wo_dicI {α : Type} {O : Own α} {pos : Pos} : WO X E B Γ (.Dict [] [] pos) (oDi kdI O) (pure ([] : List (Int × α))) := fun σ F H ω Q en q => ⟨_, pe_dnewK, fun p hp =>
  q (.ref p) F _ (fun a => a = p) (Stp.newH en.fh hp) (fun a e => by
    subst e
    exact ⟨en.fh.free hp, (by rw [upd_same]; exact fun z => nomatch z), hp⟩) ⟨by simp, p, [], [], rfl, rfl, upd_same, .nil, by simp, by simp⟩⟩
theorem wo_dicS {α : Type} {O : Own α} {pos : Pos} : WO X E B Γ (.Dict [] [] pos) (oDi kdS O) (pure ([] : List (Str × α))) := fun σ F H ω Q en q => ⟨_, pe_dnewK, fun p hp =>
  q (.ref p) F _ (fun a => a = p) (Stp.newH en.fh hp) (fun a e => by
    subst e
    exact ⟨en.fh.free hp, (by rw [upd_same]; exact fun z => nomatch z), hp⟩) ⟨by simp, p, [], [], rfl, rfl, upd_same, .nil, by simp, by simp⟩⟩
theorem wo_dicP {α : Type} {O : Own α} {pos : Pos} : WO X E B Γ (.Dict [] [] pos) (oDi kdP O) (pure ([] : List ((Int × Int) × α))) := fun σ F H ω Q en q => ⟨_, pe_dnewT, fun p hp =>
  q (.ref p) F _ (fun a => a = p) (Stp.newH en.fh hp) (fun a e => by
    subst e
    exact ⟨en.fh.free hp, (by rw [upd_same]; exact fun z => nomatch z), hp⟩) ⟨by simp, p, [], [], rfl, rfl, upd_same, .nil, by simp, by simp⟩⟩
theorem wo_dicT {α : Type} {O : Own α} {pos : Pos} : WO X E B Γ (.Dict [] [] pos) (oDi kdT O) (pure ([] : List ((Int × Int × Int) × α))) := fun σ F H ω Q en q => ⟨_, pe_dnewT, fun p hp =>
  q (.ref p) F _ (fun a => a = p) (Stp.newH en.fh hp) (fun a e => by
    subst e
    exact ⟨en.fh.free hp, (by rw [upd_same]; exact fun z => nomatch z), hp⟩) ⟨by simp, p, [], [], rfl, rfl, upd_same, .nil, by simp, by simp⟩⟩
/-- a pair of two new things -/
theorem wo_two {mk : List V → HO} {α : Type} {O : Own α} {K : PySem.W.Frag} {F H F1 H1 F2 H2 : Hp} {S1 S2 : Fp} {v1 v2 : V} {a1 a2 : α} {p : Addr} (s0 : Same F H) (s1 : Stp F H F1 H1) (d1 : ∀ p, S1 p → F1 p = none ∧ H1 p ≠ none ∧ H p = none) (r1 : O.rel K F1 H1 S1 v1 a1) (s2 : Stp F1 H1 F2 H2) (d2 : ∀ p, S2 p → F2 p = none ∧ H2 p ≠ none ∧ H1 p = none) (r2 : O.rel K F2 H2 S2 v2 a2) (hp : H2 p = none) :
    Stp F H F2 (upd H2 p (mk [v1, v2])) ∧ (∀ q, (q = p ∨ S1 q ∨ S2 q) → F2 q = none ∧ upd H2 p (mk [v1, v2]) q ≠ none ∧ H q = none) ∧ (oBx mk O).rel K F2 (upd H2 p (mk [v1, v2])) (fun q => q = p ∨ S1 q ∨ S2 q) (.ref p) [a1, a2] := by
  have n1 : ∀ q, S1 q → H2 q ≠ none := fun q hq => same_ne s2.hh (d1 q hq).2.1
  have p1 : ∀ q, S1 q → q ≠ p := fun q hq z => n1 q hq (z ▸ hp)
  have p2 : ∀ q, S2 q → q ≠ p := fun q hq z => (d2 q hq).2.1 (z ▸ hp)
  have k1 : ∀ q, S1 q → upd H2 p (mk [v1, v2]) q = H1 q := fun q hq => by rw [upd_ne (p1 q hq)]; exact same_at s2.hh (d1 q hq).2.1
  have k2 : ∀ q, S2 q → upd H2 p (mk [v1, v2]) q = H2 q := fun q hq => upd_ne (p2 q hq)
  refine ⟨(s1.trans s2).trans (Stp.newH s2.fh hp), fun q hq => ?_, p, [v1, v2], [S1, S2], rfl, .inl rfl, upd_same, .cons (O.keep r1 s2.ff k1) (.cons (O.keep r2 (Same.refl _) k2) .nil), fun s hs q hq => ?_, fun i j s t hij es et q hs ht => ?_⟩
  · rcases hq with rfl | hq | hq
    · exact ⟨s2.fh.free hp, (by rw [upd_same]; exact fun z => nomatch z), stp_none (s1.trans s2) hp⟩
    · exact ⟨s2.old q (d1 q hq).1 (d1 q hq).2.1, by rw [k1 q hq]; exact (d1 q hq).2.1, (d1 q hq).2.2⟩
    · exact ⟨(d2 q hq).1, by rw [k2 q hq]; exact (d2 q hq).2.1, stp_none s1 (d2 q hq).2.2⟩
  · rcases List.mem_cons.mp hs with rfl | hs
    · exact ⟨.inr (.inl hq), p1 q hq⟩
    · rw [List.mem_singleton.mp hs] at hq
      exact ⟨.inr (.inr hq), p2 q hq⟩
  · have dj : ∀ q, S1 q → ¬ S2 q := fun q h1 h2 => (d1 q h1).2.1 (d2 q h2).2.2
    match i, j with
    | 0, 0 => exact hij rfl
    | 0, 1 =>
      simp at es et
      subst es et
      exact dj q hs ht
    | 1, 0 =>
      simp at es et
      subst es et
      exact dj q ht hs
    | 1, 1 => exact hij rfl
    | i + 2, _ => simp at es
    | _, j + 2 => simp at et
section
variable {e1 e2 : Expr} {α : Type} {O : Own α} {m1 m2 : Out α} {j : Nat} {pos : Pos}
theorem wo_tu2 (h1 : WO X E B Γ e1 O m1) (h2 : WO X E B Γ e2 O m2) (s1 : starEach (e1 :: e2 :: []) X.env = (false, eval e1 X.env) :: starEach (e2 :: []) X.env := by rfl) (s2 : starEach (e2 :: []) X.env = (false, eval e2 X.env) :: starEach [] X.env := by rfl) :
    WO X E B Γ (.Tuple [e1, e2] j pos) (oTu O) (m1 >>= fun a => m2 >>= fun b => pure [a, b]) := fun σ F H ω Q en q => by
  refine ⟨_, pe_tup (pa_cons pe_s (pa_cons pe_s pa_nil s2) s1), ?_⟩
  refine h1 σ F H ω _ en (q.bind.imp fun a q v1 F1 H1 S1 st1 d1 r1 => ?_)
  refine h2 σ F1 H1 ω _ (en.stp st1) (q.bind.imp fun b q v2 F2 H2 S2 st2 d2 r2 => ⟨le_line (by simp), fun p hp => ?_⟩)
  obtain ⟨g1, g2, g3⟩ := wo_two (mk := HO.tup) en.fh st1 d1 r1 st2 d2 r2 hp
  exact q (.ref p) F2 _ _ g1 g2 g3
theorem wo_ls2 (h1 : WO X E B Γ e1 O m1) (h2 : WO X E B Γ e2 O m2) (s1 : starEach (e1 :: e2 :: []) X.env = (false, eval e1 X.env) :: starEach (e2 :: []) X.env := by rfl) (s2 : starEach (e2 :: []) X.env = (false, eval e2 X.env) :: starEach [] X.env := by rfl) :
    WO X E B Γ (.List [e1, e2] pos) (oL O) (m1 >>= fun a => m2 >>= fun b => pure [a, b]) := fun σ F H ω Q en q => by
  refine ⟨_, pe_lst (pa_cons pe_s (pa_cons pe_s pa_nil s2) s1), ?_⟩
  refine h1 σ F H ω _ en (q.bind.imp fun a q v1 F1 H1 S1 st1 d1 r1 => ?_)
  refine h2 σ F1 H1 ω _ (en.stp st1) (q.bind.imp fun b q v2 F2 H2 S2 st2 d2 r2 => ⟨le_line (by simp), fun p hp => ?_⟩)
  obtain ⟨g1, g2, g3⟩ := wo_two (mk := HO.lst) en.fh st1 d1 r1 st2 d2 r2 hp
  exact q (.ref p) F2 _ _ g1 g2 g3
end
end SL

set_option Elab.async false
set_option linter.all false
set_option maxRecDepth 100000
set_option maxHeartbeats 2000000
/-! SLv: parts of own things under a name of their own; defs that are lent things, that change things. -/
namespace SL
open PySem PySem.Spec PyProof.Rows L2
variable {X : Cx} {N : List Str} {sc : Scp} {k : Nat} {E : XK} {B : Bs} {Γ : List Slot}

/-! ### a part under a name of its own -/
/-- what is an O again as soon as the thing at w is an O' -/
def oWd {α β : Type} (O : Own α) (O' : Own β) (w : V) : Own (β → α) := ⟨fun K F H S v put => ∀ (F' H' : Hp) (s' : Fp) (b' : β), Same F F' → (∀ q, S q → H' q = H q) → (∀ q, s' q → ¬ S q) → O'.rel K F' H' s' w b' → O.rel K F' H' (fun q => S q ∨ s' q) v (put b'),
  fun h sf k F' H' s' b' sf' k' hs r => h F' H' s' b' (sf.trans sf') (fun q hq => (k' q hq).trans (k q hq)) hs r⟩
theorem env_focus {K : PySem.W.Frag} {Γ : List Slot} {σ : L2.St} {F H : Hp} {ω : Ow} {i j : Nat} {α β : Type} {O : Own α} {O' : Own β} {v w : V} {b : β} {put : β → α} (e : EnvOk K B Γ σ F H ω) (hv : σ[i]? = some (some v)) (hij : i ≠ j) (h : SubAt K F H (fun p => ω p = some i) v O O' w b put) :
    ∃ ω', EnvOk K B ((Γ.set i (.on _ (oWd O O' w) put)).set j (.on _ (oIs w O') b)) (σ.set j (some w)) F H ω' := by
  classical
  obtain ⟨s, hs, r, up⟩ := h
  have hω : ∀ p l, (if s p then some j else if ω p = some j then none else ω p) = some l ↔ (l = j ∧ s p) ∨ (l ≠ j ∧ ω p = some l ∧ ¬ s p) := fun p l => by
    by_cases c : s p
    · simp only [if_pos c]
      constructor
      · intro z; exact .inl ⟨(Option.some.inj z).symm, c⟩
      · rintro (⟨z, _⟩ | ⟨_, _, z⟩)
        · rw [z]
        · exact absurd c z
    · simp only [if_neg c]
      by_cases c2 : ω p = some j
      · simp only [if_pos c2]
        constructor
        · exact fun z => nomatch z
        · rintro (⟨_, z⟩ | ⟨z, y, _⟩)
          · exact absurd z c
          · rw [c2] at y; exact absurd (Option.some.inj y).symm z
      · simp only [if_neg c2]
        constructor
        · intro z; exact .inr ⟨fun y => c2 (y ▸ z), z, c⟩
        · rintro (⟨_, z⟩ | ⟨z, y, _⟩)
          · exact absurd z c
          · exact y
  refine ⟨fun p => if s p then some j else if ω p = some j then none else ω p, e.base, by simp [e.len], fun p l hl => ?_, fun l t hl => ?_⟩
  · rcases (hω p l).mp hl with ⟨_, z⟩ | ⟨_, z, _⟩
    · exact e.own p i (hs p z)
    · exact e.own p l z
  · by_cases c : j = l
    · subst c
      have hjl : j < Γ.length := by
        have := (List.getElem?_eq_some_iff.mp hl).1
        simpa using this
      rw [List.getElem?_set_self (by simpa using hjl)] at hl
      cases hl
      rw [List.getElem?_set_self (by rw [e.len]; exact hjl)]
      have es : (fun p => (if s p then some j else if ω p = some j then none else ω p) = some j) = s := funext fun p => propext (by
        rw [hω p j]
        constructor
        · rintro (⟨_, z⟩ | ⟨z, _⟩)
          · exact z
          · exact absurd rfl z
        · exact fun z => .inl ⟨rfl, z⟩)
      rw [es]
      exact ⟨w, rfl, rfl, r⟩
    · rw [List.getElem?_set_ne c] at hl
      rw [List.getElem?_set_ne c]
      by_cases c2 : i = l
      · subst c2
        have hil : i < Γ.length := by
          have := (List.getElem?_eq_some_iff.mp hl).1
          simpa using this
        rw [List.getElem?_set_self hil] at hl
        cases hl
        have es : (fun p => (if s p then some j else if ω p = some j then none else ω p) = some i) = fun p => ω p = some i ∧ ¬ s p := funext fun p => propext (by
          rw [hω p i]
          constructor
          · rintro (⟨z, _⟩ | ⟨_, z⟩)
            · exact absurd z hij
            · exact z
          · exact fun z => .inr ⟨hij, z⟩)
        rw [es]
        refine ⟨v, by rw [hv]; rfl, fun F' H' s' b' sf kk hs' r' => ?_⟩
        refine up F' H' s' b' sf (fun q h1 h2 => kk q ⟨h1, h2⟩) (fun q hq => ?_) r'
        by_cases c3 : s q
        · exact .inl c3
        · exact .inr fun z => hs' q hq ⟨z, c3⟩
      · rw [List.getElem?_set_ne c2] at hl
        refine slot_iff (e.slot l t hl) fun p => ?_
        rw [hω p l]
        constructor
        · rintro (⟨z, _⟩ | ⟨_, z, _⟩)
          · exact absurd z.symm c
          · exact z
        · intro z
          refine .inr ⟨fun y => c y.symm, z, fun y => ?_⟩
          have : ω p = some i := hs p y
          rw [this] at z
          exact c2 (Option.some.inj z)
theorem env_unfocus {K : PySem.W.Frag} {Γ : List Slot} {σ : L2.St} {F H : Hp} {ω : Ow} {i j : Nat} {α β : Type} {O : Own α} {O' : Own β} {w : V} {b : β} {put : β → α} (e : EnvOk K B Γ σ F H ω) (hij : i ≠ j) (hi : Γ[i]? = some (.on _ (oWd O O' w) put)) (hj : Γ[j]? = some (.on _ (oIs w O') b)) :
    ∃ ω', EnvOk K B ((Γ.set i (.on _ O (put b))).set j .any) σ F H ω' := by
  obtain ⟨v, hv, h⟩ := e.slot i _ hi
  obtain ⟨w', hw, rfl, r⟩ := e.slot j _ hj
  have hω : ∀ p l, (if ω p = some j then some i else ω p) = some l ↔ (l = i ∧ (ω p = some i ∨ ω p = some j)) ∨ (l ≠ i ∧ l ≠ j ∧ ω p = some l) := fun p l => by
    by_cases c : ω p = some j
    · simp only [if_pos c]
      constructor
      · intro z; exact .inl ⟨(Option.some.inj z).symm, .inr c⟩
      · rintro (⟨z, _⟩ | ⟨_, z, y⟩)
        · rw [z]
        · rw [c] at y; exact absurd (Option.some.inj y).symm z
    · simp only [if_neg c]
      constructor
      · intro z
        by_cases c2 : l = i
        · subst c2; exact .inl ⟨rfl, .inl z⟩
        · exact .inr ⟨c2, fun y => c (y ▸ z), z⟩
      · rintro (⟨z, y | y⟩ | ⟨_, _, z⟩)
        · rw [z]; exact y
        · exact absurd y c
        · exact z
  refine ⟨fun p => if ω p = some j then some i else ω p, e.base, by simp [e.len], fun p l hl => ?_, fun l t hl => ?_⟩
  · rcases (hω p l).mp hl with ⟨_, z | z⟩ | ⟨_, _, z⟩
    · exact e.own p i z
    · exact e.own p j z
    · exact e.own p l z
  · by_cases c : j = l
    · subst c
      have hjl : j < Γ.length := by
        have := (List.getElem?_eq_some_iff.mp hl).1
        simpa using this
      rw [List.getElem?_set_self (by simpa using hjl)] at hl
      cases hl
      trivial
    · rw [List.getElem?_set_ne c] at hl
      by_cases c2 : i = l
      · subst c2
        have hil : i < Γ.length := by
          have := (List.getElem?_eq_some_iff.mp hl).1
          simpa using this
        rw [List.getElem?_set_self hil] at hl
        cases hl
        have es : (fun p => (if ω p = some j then some i else ω p) = some i) = fun p => ω p = some i ∨ ω p = some j := funext fun p => propext (by
          rw [hω p i]
          constructor
          · rintro (⟨_, z⟩ | ⟨z, _⟩)
            · exact z
            · exact absurd rfl z
          · exact fun z => .inl ⟨rfl, z⟩)
        rw [es]
        exact ⟨v, hv, h F H _ b (Same.refl F) (fun _ _ => rfl) (fun q hq hq2 => by
          have h1 : ω q = some j := hq
          have h2 : ω q = some i := hq2
          rw [h1] at h2
          exact hij (Option.some.inj h2).symm) r⟩
      · rw [List.getElem?_set_ne c2] at hl
        refine slot_iff (e.slot l t hl) fun p => ?_
        rw [hω p l]
        constructor
        · rintro (⟨z, _⟩ | ⟨_, _, z⟩)
          · exact absurd z.symm c2
          · exact z
        · exact fun z => .inr ⟨fun y => c2 y.symm, fun y => c y.symm, z⟩
section
variable {γ : Type} {D : γ → SOut} {b : List Stmt} {bs : List (List Stmt)} {x : Str} {p pos : Pos} {e : Expr} {α β : Type} {O : Own α} {O' : Own β} {me : Out (β × (β → α))} {f : β × (β → α) → Out γ} {m : Out γ}
/-- y = P, a part of what is in slot i -/
theorem ws_focus (C : XC X N sc k E) (i j : Nat) (h : WL X E B Γ i e O O' me) (hr : ∀ r w, WS X E B ((Γ.set i (.on _ (oWd O O' w) r.2)).set j (.on _ (oIs w O') r.1)) (b :: bs) (f r) D) (hij : i ≠ j := by decide) (hN : N[j]? = some x := by rfl) (hl : L2.Loc sc.raw x := by first | exact Or.inl rfl | exact Or.inr rfl)
    (hs : swapsWith e (some (.Name x p)) pos.line X.env = pure false := by rfl) : WS X E B Γ ((.Assign [.Name x p] e pos :: b) :: bs) (me >>= f) D := fun σ F H ω En en q => by
  refine sK_cons ⟨_, ps_set (by rw [C.nm]; exact C.nd) (by rw [C.nm]; exact hN) (C.loc _ hl).1 pe_s hs (C.loc _ hl).2, ?_⟩
  refine h σ F H ω _ en (q.bind.imp fun r q v w F1 H1 s1 hv sb => ?_)
  obtain ⟨ω', en'⟩ := env_focus (en.stp s1) hv hij sb
  exact hr r w _ F1 H1 _ En en' (q.imp fun b z => EndOk.up z s1.ff)
theorem ws_unfocus (i j : Nat) {w : V} {a : β} {put : β → α} (hi : Γ[i]? = some (.on _ (oWd O O' w) put)) (hj : Γ[j]? = some (.on _ (oIs w O') a)) (h : WS X E B ((Γ.set i (.on _ O (put a))).set j .any) bs m D) (hij : i ≠ j := by decide) : WS X E B Γ bs m D := fun σ F H ω En en q => by
  obtain ⟨ω', en'⟩ := env_unfocus en hij hi hj
  exact h σ F H ω' En en' q
end

/-! ### parameters that are lent, that are changed -/
structure ParG (ι ο : Type) where
  n : Nat
  rel : PySem.W.Frag → Hp → Hp → Fp → (Nat → Fp) → List V → ι → Prop
  out : PySem.W.Frag → Hp → Hp → (Nat → Fp) → List V → ο → Prop
  slots : Bs → List V → ι → List Slot
  os : List V → ο → List Slot
  len : ∀ {K F H W S vs i}, rel K F H W S vs i → vs.length = n
  slen : ∀ B vs i, (slots B vs i).length = n
  oslen : ∀ vs o, (os vs o).length = n
  ok : ∀ {K F H W S vs i}, rel K F H W S vs i → ∀ (j : Nat) (s : Slot), (slots ⟨F, H, W⟩ vs i)[j]? = some s → s.ok K F H (S j) vs[j]?
  oko : ∀ {K F H S vs o} (σ : Nat → Option V), vs.length = n → (∀ (j : Nat) (s : Slot), (os vs o)[j]? = some s → s.ok K F H (S j) (σ j)) → out K F H S vs o
def gN : ParG Unit Unit := ⟨0, fun _ _ _ _ _ vs _ => vs = [], fun _ _ _ _ vs _ => vs = [], fun _ _ _ => [], fun _ _ => [], fun h => by rw [h]; rfl, fun _ _ _ => rfl, fun _ _ => rfl, fun _ j s h => by simp at h, fun {K F H S vs o} _ h _ => List.length_eq_zero_iff.mp h⟩
theorem tail_get {vs : List V} {v : V} {ws : List V} (e : vs = v :: ws) (j : Nat) : vs[j + 1]? = ws[j]? := by rw [e]; rfl
def gI {α ι ο : Type} (T : Ty α) (P : ParG ι ο) : ParG (α × ι) ο where
  n := P.n + 1
  rel := fun K F H W S vs i => ∃ v ws, vs = v :: ws ∧ T.rel K F v i.1 ∧ P.rel K F H W (fun j => S (j + 1)) ws i.2
  out := fun K F H S vs o => ∃ v ws, vs = v :: ws ∧ P.out K F H (fun j => S (j + 1)) ws o
  slots := fun B vs i => iS T i.1 :: P.slots B vs.tail i.2
  os := fun vs o => .any :: P.os vs.tail o
  len := fun ⟨v, ws, e, _, r⟩ => by rw [e, List.length_cons, P.len r]
  slen := fun B vs i => by rw [List.length_cons, P.slen]
  oslen := fun vs o => by rw [List.length_cons, P.oslen]
  ok := fun ⟨v, ws, e, r1, r2⟩ j s h => by
    subst e
    cases j with
    | zero =>
      simp only [List.getElem?_cons_zero, Option.some.injEq] at h
      subst h
      exact ⟨v, rfl, r1⟩
    | succ j =>
      simp only [List.getElem?_cons_succ] at h ⊢
      exact P.ok r2 j s h
  oko := fun {K F H S vs o} σ hl h => by
    cases vs with
    | nil => simp at hl
    | cons v ws => exact ⟨v, ws, rfl, P.oko (S := fun j => S (j + 1)) (fun j => σ (j + 1)) (by simpa using hl) fun j s hj => h (j + 1) s (by simpa using hj)⟩
def gB {α ι ο : Type} (O : Own α) (P : ParG ι ο) : ParG (α × ι) ο where
  n := P.n + 1
  rel := fun K F H W S vs i => ∃ v ws, vs = v :: ws ∧ (∃ s : Fp, (∀ p, s p → H p ≠ none ∧ ¬ W p) ∧ O.rel K F H s v i.1) ∧ P.rel K F H W (fun j => S (j + 1)) ws i.2
  out := fun K F H S vs o => ∃ v ws, vs = v :: ws ∧ P.out K F H (fun j => S (j + 1)) ws o
  slots := fun B vs i => iS (tBor B O) i.1 :: P.slots B vs.tail i.2
  os := fun vs o => .any :: P.os vs.tail o
  len := fun ⟨v, ws, e, _, r⟩ => by rw [e, List.length_cons, P.len r]
  slen := fun B vs i => by rw [List.length_cons, P.slen]
  oslen := fun vs o => by rw [List.length_cons, P.oslen]
  ok := fun ⟨v, ws, e, r1, r2⟩ j s h => by
    subst e
    cases j with
    | zero =>
      simp only [List.getElem?_cons_zero, Option.some.injEq] at h
      subst h
      exact ⟨v, rfl, r1⟩
    | succ j =>
      simp only [List.getElem?_cons_succ] at h ⊢
      exact P.ok r2 j s h
  oko := fun {K F H S vs o} σ hl h => by
    cases vs with
    | nil => simp at hl
    | cons v ws => exact ⟨v, ws, rfl, P.oko (S := fun j => S (j + 1)) (fun j => σ (j + 1)) (by simpa using hl) fun j s hj => h (j + 1) s (by simpa using hj)⟩
def gO {α ι ο : Type} (O : Own α) (P : ParG ι ο) : ParG (α × ι) (α × ο) where
  n := P.n + 1
  rel := fun K F H W S vs i => ∃ v ws, vs = v :: ws ∧ O.rel K F H (S 0) v i.1 ∧ P.rel K F H W (fun j => S (j + 1)) ws i.2
  out := fun K F H S vs o => ∃ v ws, vs = v :: ws ∧ O.rel K F H (S 0) v o.1 ∧ P.out K F H (fun j => S (j + 1)) ws o.2
  slots := fun B vs i => .on α (oIs (vs.headD .non) O) i.1 :: P.slots B vs.tail i.2
  os := fun vs o => .on α (oIs (vs.headD .non) O) o.1 :: P.os vs.tail o.2
  len := fun ⟨v, ws, e, _, r⟩ => by rw [e, List.length_cons, P.len r]
  slen := fun B vs i => by rw [List.length_cons, P.slen]
  oslen := fun vs o => by rw [List.length_cons, P.oslen]
  ok := fun ⟨v, ws, e, r1, r2⟩ j s h => by
    subst e
    cases j with
    | zero =>
      simp only [List.getElem?_cons_zero, Option.some.injEq] at h
      subst h
      exact ⟨v, rfl, rfl, r1⟩
    | succ j =>
      simp only [List.getElem?_cons_succ] at h ⊢
      exact P.ok r2 j s h
  oko := fun {K F H S vs o} σ hl h => by
    cases vs with
    | nil => simp at hl
    | cons v ws =>
      obtain ⟨v', _, e, r⟩ := h 0 _ rfl
      have e' : v' = v := e
      subst e'
      exact ⟨v', ws, rfl, r, P.oko (S := fun j => S (j + 1)) (fun j => σ (j + 1)) (by simpa using hl) fun j s hj => h (j + 1) s (by simpa using hj)⟩

/-! ### promises -/
/-- a def that is lent things -/
def SpsB {ι ο β : Type} (P : ParG ι ο) (m : ι → Out β) (T : Ty β) (K : PySem.W.Frag) : Sp := fun vs H Q E => ∃ (i : ι) (F : Hp), Same F H ∧ P.rel K F H (fun _ => False) (fun _ _ => False) vs i ∧
  Post (m i) (fun b => ∀ v F' H', Stp F H F' H' → T.rel K F' v b → Q v H') (fun x => ∀ cls d F' H', Stp F H F' H' → ErrOk K F' x cls d → E cls d H')
def SpsBO {ι ο β : Type} (P : ParG ι ο) (m : ι → Out β) (O : Own β) (K : PySem.W.Frag) : Sp := fun vs H Q E => ∃ (i : ι) (F : Hp), Same F H ∧ P.rel K F H (fun _ => False) (fun _ _ => False) vs i ∧
  Post (m i) (fun b => ∀ v F' H' S, Stp F H F' H' → (∀ p, S p → F' p = none ∧ H' p ≠ none ∧ H p = none) → O.rel K F' H' S v b → Q v H') (fun x => ∀ cls d F' H', Stp F H F' H' → ErrOk K F' x cls d → E cls d H')
/-- a def that changes things and hands back None -/
def SpsP {ι ο : Type} (P : ParG ι ο) (m : ι → Out ο) (K : PySem.W.Frag) : Sp := fun vs H Q E => ∃ (i : ι) (F : Hp) (S : Nat → Fp), Same F H ∧ P.rel K F H (fun p => ∃ j, S j p) S vs i ∧ (∀ j p, S j p → F p = none ∧ H p ≠ none) ∧ (∀ j l p, S j p → S l p → j = l) ∧
  Post (m i) (fun o => ∀ F' H' S', SW (fun p => ∃ j, S j p) F H F' H' → (∀ j p, S' j p → F' p = none ∧ H' p ≠ none ∧ (H p = none ∨ ∃ l, S l p)) → (∀ j l p, S' j p → S' l p → j = l) → P.out K F' H' S' vs o → Q .non H')
    (fun x => ∀ cls d F' H', SW (fun p => ∃ j, S j p) F H F' H' → ErrOk K F' x cls d → E cls d H')
theorem env_startG {K : PySem.W.Frag} {ι ο : Type} {P : ParG ι ο} {i : ι} {N : List Str} {vs : List V} {F H : Hp} {S : Nat → Fp} (hF : Same F H) (hr : P.rel K F H (fun p => ∃ j, S j p) S vs i) (hN : P.n ≤ N.length) (hS : ∀ j p, S j p → F p = none ∧ H p ≠ none) (hd : ∀ j l p, S j p → S l p → j = l) :
    ∃ ω, EnvOk K ⟨F, H, fun p => ∃ j, S j p⟩ (P.slots ⟨F, H, fun p => ∃ j, S j p⟩ vs i ++ anyS (N.length - P.n)) (L2.start N vs) F H ω := by
  classical
  have hl := P.len hr
  have hω : ∀ p j, (if h : ∃ j, S j p then some h.choose else none) = some j ↔ S j p := fun p j => by
    by_cases c : ∃ j, S j p
    · rw [dif_pos c]
      constructor
      · intro z; rw [← Option.some.inj z]; exact c.choose_spec
      · intro z; exact congrArg some (hd _ _ p c.choose_spec z)
    · rw [dif_neg c]
      exact ⟨(fun z => nomatch z), fun z => absurd ⟨j, z⟩ c⟩
  refine ⟨fun p => if h : ∃ j, S j p then some h.choose else none, SW.refl hF, ?_, fun a j h => ?_, fun j s h => ?_⟩
  · unfold L2.start
    rw [List.length_append, List.length_append, List.length_map, List.length_replicate, P.slen, anyS_len, hl]
  · have := (hω a j).mp h
    exact ⟨(hS j a this).1, (hS j a this).2, .inr ⟨j, this⟩⟩
  · by_cases c : j < P.n
    · rw [List.getElem?_append_left (by rw [P.slen]; exact c)] at h
      have q := P.ok hr j s h
      rw [start_get j (by rw [hl]; exact c)]
      exact slot_iff q fun p => hω p j
    · rw [List.getElem?_append_right (by rw [P.slen]; omega)] at h
      rw [anyS_get _ _ _ h]
      trivial
section
variable {Pr : Program} {w : World} {K : PySem.W.Frag} {mg : Str → Option Value} {base : Heap} {x qual : Str} {params : Arguments} {body : List Stmt} {scope : Scope} {dvs : List V} {kws : List (Str × V)} {f : Addr} {fd : FuncData}
variable {ι ο β : Type} {P : ParG ι ο} {m : ι → Out β} {mp : ι → Out ο} {T : Ty β} {O : Own β} {N ps : List Str} {k : Nat}
theorem fn_bodyB (F : FunD K x qual params body scope dvs kws f fd) (S : FnScope N ps scope) (hn : P.n = ps.length) (hN : P.n ≤ N.length)
    (h : ∀ (X : Cx) (E : XK) (B : Bs) (vs : List V) (i : ι), X.prog = Pr → X.w = w → X.K = K → X.mg = mg → X.base = base → (∀ p, ¬ B.W p) → XC X N ⟨scope, scope⟩ k E → vs.length = P.n → WS X E B (P.slots B vs i ++ anyS (N.length - P.n)) [body] (m i) (fun b => .rt β T b)) :
    FnOk Pr w K mg base (L2.CX Pr w) (k + 1) f fd ps (SpsB P m T K) := by
  refine F.ok S (fun vs H Q E ⟨i, F0, _, r, _⟩ => (P.len r).trans hn) fun cdv A outer s H vs Q E hr ⟨i, F0, hF, r, po⟩ => ?_
  have eW : (fun p : Addr => ∃ j : Nat, (fun _ _ => False : Nat → Fp) j p) = fun _ => False := funext fun p => propext ⟨fun ⟨_, z⟩ => z, fun z => z.elim⟩
  obtain ⟨ω, en⟩ := env_startG (S := fun _ _ => False) (i := i) (N := N) hF (by rw [eW]; exact r) hN (fun _ _ z => z.elim) (fun _ _ _ z => z.elim)
  rw [eW] at en
  have q := h (cxOf (L2.CX Pr w) Pr w K mg base N qual scope f cdv A outer s H E) E ⟨F0, H, fun _ => False⟩ vs i rfl rfl rfl rfl rfl (fun _ z => z) (xc_def S.nd hr) (P.len r) (L2.start N vs) F0 H ω { nx := fun _ H' => Q .non H', rt := Q } en
    (po.mono (fun b q v F' H' s r => q v F' H' (SW.pure s) r) fun x q => rb_of q)
  obtain ⟨t, pt, ht⟩ := q
  exact ⟨t, pt, ht⟩
theorem fn_bodyBO (F : FunD K x qual params body scope dvs kws f fd) (S : FnScope N ps scope) (hn : P.n = ps.length) (hN : P.n ≤ N.length)
    (h : ∀ (X : Cx) (E : XK) (B : Bs) (vs : List V) (i : ι), X.prog = Pr → X.w = w → X.K = K → X.mg = mg → X.base = base → (∀ p, ¬ B.W p) → XC X N ⟨scope, scope⟩ k E → vs.length = P.n → WS X E B (P.slots B vs i ++ anyS (N.length - P.n)) [body] (m i) (fun b => .ro β O b)) :
    FnOk Pr w K mg base (L2.CX Pr w) (k + 1) f fd ps (SpsBO P m O K) := by
  refine F.ok S (fun vs H Q E ⟨i, F0, _, r, _⟩ => (P.len r).trans hn) fun cdv A outer s H vs Q E hr ⟨i, F0, hF, r, po⟩ => ?_
  have eW : (fun p : Addr => ∃ j : Nat, (fun _ _ => False : Nat → Fp) j p) = fun _ => False := funext fun p => propext ⟨fun ⟨_, z⟩ => z, fun z => z.elim⟩
  obtain ⟨ω, en⟩ := env_startG (S := fun _ _ => False) (i := i) (N := N) hF (by rw [eW]; exact r) hN (fun _ _ z => z.elim) (fun _ _ _ z => z.elim)
  rw [eW] at en
  have q := h (cxOf (L2.CX Pr w) Pr w K mg base N qual scope f cdv A outer s H E) E ⟨F0, H, fun _ => False⟩ vs i rfl rfl rfl rfl rfl (fun _ z => z) (xc_def S.nd hr) (P.len r) (L2.start N vs) F0 H ω { nx := fun _ H' => Q .non H', rt := Q } en
    (po.mono (fun b q v F' H' S s d r => q v F' H' S (SW.pure s) d r) fun x q => rb_of q)
  obtain ⟨t, pt, ht⟩ := q
  exact ⟨t, pt, ht⟩
theorem fn_bodyP (F : FunD K x qual params body scope dvs kws f fd) (S : FnScope N ps scope) (hn : P.n = ps.length) (hN : P.n ≤ N.length)
    (h : ∀ (X : Cx) (E : XK) (B : Bs) (vs : List V) (i : ι), X.prog = Pr → X.w = w → X.K = K → X.mg = mg → X.base = base → XC X N ⟨scope, scope⟩ k E → vs.length = P.n → WS X E B (P.slots B vs i ++ anyS (N.length - P.n)) [body] (mp i) (fun o => .nx (P.os vs o ++ anyS (N.length - P.n)))) :
    FnOk Pr w K mg base (L2.CX Pr w) (k + 1) f fd ps (SpsP P mp K) := by
  refine F.ok S (fun vs H Q E ⟨i, F0, S, _, r, _⟩ => (P.len r).trans hn) fun cdv A outer s H vs Q E hr ⟨i, F0, S0, hF, r, hS, hd, po⟩ => ?_
  obtain ⟨ω, en⟩ := env_startG (N := N) hF r hN hS hd
  have q := h (cxOf (L2.CX Pr w) Pr w K mg base N qual scope f cdv A outer s H E) E ⟨F0, H, fun p => ∃ j, S0 j p⟩ vs i rfl rfl rfl rfl rfl (xc_def S.nd hr) (P.len r) (L2.start N vs) F0 H ω { nx := fun _ H' => Q .non H', rt := Q } en
    (po.mono (fun o q σ F' H' ω' _ en' => q F' H' (fun j p => ω' p = some j) en'.base (fun j p hp => by
      obtain ⟨x, y, z⟩ := en'.own p j hp
      exact ⟨x, y, z⟩) (fun j l p h1 h2 => by
      rw [h1] at h2
      exact Option.some.inj h2) (P.oko (fun j => σ[j]?.join) (P.len r) fun j s hj => en'.slot j s (by
        rw [List.getElem?_append_left (List.getElem?_eq_some_iff.mp hj).1]
        exact hj))) fun x q cls d F' H' s e => q cls d F' H' s e)
  obtain ⟨t, pt, ht⟩ := q
  exact ⟨t, pt, ht⟩
end
end SL

set_option Elab.async false
set_option linter.all false
set_option maxRecDepth 100000
set_option maxHeartbeats 2000000
/-! SLw: calls of defs that are lent things, that change things. -/
namespace SL
open PySem PySem.Spec PyProof.Rows L2
variable {X : Cx} {N : List Str} {sc : Scp} {k : Nat} {E : XK} {B : Bs} {Γ : List Slot}

/-! ### arguments with what the slots hold -/
def WAs (X : Cx) (E : XK) (B : Bs) (Γ : List Slot) (es : List Expr) {β : Type} (c : L2.St → Ow → Hp → Hp → List V → Out β → Prop) (m : Out β) : Prop :=
  ∀ σ F H ω (P : β → Prop) (Q : List V → Hp → Prop), EnvOk X.K B Γ σ F H ω → Post m P (RB X.K B E) → (∀ vs F' H' o, Stp F H F' H' → c σ ω F' H' vs o → Post o P (RB X.K B E) → Q vs H') → sA X es σ H Q
theorem was_nil {β : Type} {c : L2.St → Ow → Hp → Hp → List V → Out β → Prop} {m : Out β} (h : ∀ σ ω F H, EnvOk X.K B Γ σ F H ω → c σ ω F H [] m) : WAs X E B Γ [] c m := fun σ F H ω P Q en p q => ⟨_, pa_nil, q [] F H m (Stp.refl en.fh) (h _ _ _ _ en) p⟩
theorem was_cons {β α : Type} {e : Expr} {es : List Expr} {R : Rl α} {m : Out α} {f : α → Out β} {c : L2.St → Ow → Hp → Hp → List V → Out β → Prop} (h : WE X E B Γ e R m)
    (hr : ∀ a, WAs X E B Γ es (fun σ ω F H vs o => ∀ v, R.rel X.K F H v a → c σ ω F H (v :: vs) o) (f a)) (hs : starEach (e :: es) X.env = (false, eval e X.env) :: starEach es X.env := by rfl) : WAs X E B Γ (e :: es) c (m >>= f) := fun σ F H ω P Q en p q => by
  refine ⟨_, pa_cons pe_s pa_s hs, ?_⟩
  refine h σ F H ω _ en (p.bind.imp fun a po v F1 H1 s1 r1 => ?_)
  exact hr a σ F1 H1 ω P _ (en.stp s1) po fun vs F2 H2 o s2 hc ho => q (v :: vs) F2 H2 o (s1.trans s2) (hc v (R.mono s2 r1)) ho
/-- the thing in slot i itself -/
theorem was_io (C : XC X N sc k E) (i : Nat) {x : Str} {pos : Pos} {β α : Type} {O : Own α} {a : α} {es : List Expr} {m : Out β} {c : L2.St → Ow → Hp → Hp → List V → Out β → Prop}
    (hr : WAs X E B Γ es (fun σ ω F H vs o => ∀ v, σ[i]? = some (some v) → c σ ω F H (v :: vs) o) m) (hΓ : Γ[i]? = some (.on α O a) := by rfl) (hN : N[i]? = some x := by rfl) (hv : Vis sc.sc x := by first | exact Or.inl rfl | exact Or.inr (Or.inl rfl) | exact Or.inr (Or.inr rfl))
    (hd : (x == ("__debug__" : Str)) = false := by decide) (hcd : (x == ("__classdict__" : Str)) = false := by decide) (hs : starEach (.Name x pos :: es) X.env = (false, eval (.Name x pos) X.env) :: starEach es X.env := by rfl) : WAs X E B Γ (.Name x pos :: es) c m := fun σ F H ω P Q en p q => by
  refine ⟨_, pa_cons (pv_ C hN hv hd hcd) pa_s hs, ?_⟩
  obtain ⟨v, hv, _⟩ := en.slot i _ hΓ
  exact ⟨v, join_some hv, hr σ F H ω P _ en p fun vs F2 H2 o s2 hc ho => q (v :: vs) F2 H2 o s2 (hc v (join_some hv)) ho⟩
/-- the addresses of the things that are changed -/
def ioF : List (Option Nat) → Ow → Nat → Fp
  | [], _, _ => fun _ => False
  | o :: _, ω, 0 => match o with
    | some i => fun p => ω p = some i
    | none => fun _ => False
  | _ :: is, ω, j + 1 => ioF is ω j
def IoAt (σ : L2.St) : List (Option Nat) → List V → Prop
  | [], _ => True
  | none :: is, vs => IoAt σ is vs.tail
  | some i :: is, vs => (∃ v, vs.head? = some v ∧ σ[i]? = some (some v)) ∧ IoAt σ is vs.tail
theorem ioF_get {ω : Ow} : ∀ {is : List (Option Nat)} {j : Nat} {p : Addr}, ioF is ω j p → ∃ i, is[j]? = some (some i) ∧ ω p = some i
  | [], _, _, h => h.elim
  | some i :: _, 0, p, h => ⟨i, rfl, h⟩
  | none :: _, 0, p, h => h.elim
  | _ :: is, j + 1, p, h => by
    obtain ⟨i, h1, h2⟩ := ioF_get (is := is) h
    exact ⟨i, by simpa using h1, h2⟩
theorem get_ioF {ω : Ow} : ∀ {is : List (Option Nat)} {j i : Nat} {p : Addr}, is[j]? = some (some i) → ω p = some i → ioF is ω j p
  | [], _, _, _, h, _ => by simp at h
  | some i :: _, 0, _, p, h, h2 => by
    simp at h
    subst h
    exact h2
  | none :: _, 0, _, p, h, _ => by simp at h
  | some _ :: is, j + 1, i, p, h, h2 => get_ioF (is := is) (by simpa using h) h2
  | none :: is, j + 1, i, p, h, h2 => get_ioF (is := is) (by simpa using h) h2
/-- the slots' new things, in the row of the parameters -/
def NewAt (K : PySem.W.Frag) (F H : Hp) (σ : L2.St) : (Nat → Fp) → List (Option Nat) → List (Nat × Slot) → Prop
  | _, [], us => us = []
  | S, none :: is, us => NewAt K F H σ (fun j => S (j + 1)) is us
  | S, some i :: is, us => ∃ s rest, us = (i, s) :: rest ∧ s.ok K F H (S 0) (σ[i]?.join) ∧ NewAt K F H σ (fun j => S (j + 1)) is rest
theorem newAt_mem {K : PySem.W.Frag} {F H : Hp} {σ : L2.St} : ∀ {is : List (Option Nat)} {S : Nat → Fp} {us : List (Nat × Slot)}, NewAt K F H σ S is us → (∀ u ∈ us, ∃ j, is[j]? = some (some u.1) ∧ u.2.ok K F H (S j) (σ[u.1]?.join)) ∧ ∀ (i j : Nat), is[j]? = some (some i) → ∃ s, (i, s) ∈ us
  | [], S, us, h => by
    have h' : us = [] := h
    subst h'
    exact ⟨by simp, by simp⟩
  | none :: is, S, us, h => by
    obtain ⟨h1, h2⟩ := newAt_mem (is := is) h
    refine ⟨fun u hu => ?_, fun i j hj => ?_⟩
    · obtain ⟨j, hj, r⟩ := h1 u hu
      exact ⟨j + 1, by simpa using hj, r⟩
    · cases j with
      | zero => simp at hj
      | succ j => exact h2 i j (by simpa using hj)
  | some i :: is, S, us, h => by
    obtain ⟨s, rest, rfl, r, h⟩ := h
    obtain ⟨h1, h2⟩ := newAt_mem (is := is) h
    refine ⟨fun u hu => ?_, fun l j hj => ?_⟩
    · rcases List.mem_cons.mp hu with rfl | hu
      · exact ⟨0, rfl, r⟩
      · obtain ⟨j, hj, r⟩ := h1 u hu
        exact ⟨j + 1, by simpa using hj, r⟩
    · cases j with
      | zero =>
        simp at hj
        subst hj
        exact ⟨s, by simp⟩
      | succ j =>
        obtain ⟨t, ht⟩ := h2 l j (by simpa using hj)
        exact ⟨t, by simp [ht]⟩
abbrev setAll (Γ : List Slot) (us : List (Nat × Slot)) : List Slot := us.foldl (fun G u => G.set u.1 u.2) Γ
theorem setAll_len : ∀ (us : List (Nat × Slot)) (Γ : List Slot), (setAll Γ us).length = Γ.length
  | [], _ => rfl
  | u :: us, Γ => by
    show (setAll (Γ.set u.1 u.2) us).length = _
    rw [setAll_len us, List.length_set]
theorem setAll_get : ∀ (us : List (Nat × Slot)) (Γ : List Slot) (i : Nat) (s : Slot), (setAll Γ us)[i]? = some s → (i, s) ∈ us ∨ (Γ[i]? = some s ∧ ∀ u ∈ us, u.1 ≠ i)
  | [], _, i, s, h => .inr ⟨h, by simp⟩
  | u :: us, Γ, i, s, h => by
    have h' : (setAll (Γ.set u.1 u.2) us)[i]? = some s := h
    rcases setAll_get us _ i s h' with h1 | ⟨h1, h2⟩
    · exact .inl (by simp [h1])
    · by_cases c : u.1 = i
      · subst c
        have hl : u.1 < Γ.length := by
          have := (List.getElem?_eq_some_iff.mp h1).1
          simpa using this
        rw [List.getElem?_set_self hl] at h1
        cases h1
        exact .inl (by simp)
      · rw [List.getElem?_set_ne c] at h1
        refine .inr ⟨h1, fun v hv => ?_⟩
        rcases List.mem_cons.mp hv with rfl | hv
        · exact c
        · exact h2 v hv
/-- the slots behind a call -/
theorem env_call {K : PySem.W.Frag} {Γ : List Slot} {σ : L2.St} {F H F' H' : Hp} {ω : Ow} {is : List (Option Nat)} {S' : Nat → Fp} {us : List (Nat × Slot)} (e : EnvOk K B Γ σ F H ω) (hsw : SW (fun p => ∃ j, ioF is ω j p) F H F' H') (hS : ∀ j p, S' j p → F' p = none ∧ H' p ≠ none ∧ (H p = none ∨ ∃ l, ioF is ω l p))
    (hd : ∀ j l p, S' j p → S' l p → j = l) (hnd : ∀ (j l i : Nat), is[j]? = some (some i) → is[l]? = some (some i) → j = l) (hn : NewAt K F' H' σ S' is us) : ∃ ω', EnvOk K B (setAll Γ us) σ F' H' ω' := by
  classical
  obtain ⟨n1, n2⟩ := newAt_mem hn
  let io : Nat → Prop := fun i => ∃ j : Nat, is[j]? = some (some i)
  let nw : Addr → Nat → Prop := fun p i => ∃ j : Nat, is[j]? = some (some i) ∧ S' j p
  have nwu : ∀ {p i l}, nw p i → nw p l → i = l := fun {p i l} ⟨j, a, b⟩ ⟨j2, a2, b2⟩ => by
    have := hd j j2 p b b2
    subst this
    rw [a] at a2
    exact Option.some.inj (Option.some.inj a2)
  let ω' : Ow := fun p => if h : ∃ i, nw p i then some h.choose else if ∃ i, io i ∧ ω p = some i then none else ω p
  have hω : ∀ p l, ω' p = some l ↔ nw p l ∨ ((¬ ∃ i, nw p i) ∧ ¬ io l ∧ ω p = some l) := fun p l => by
    show (if h : ∃ i, nw p i then some h.choose else if ∃ i, io i ∧ ω p = some i then none else ω p) = some l ↔ _
    by_cases c : ∃ i, nw p i
    · rw [dif_pos c]
      constructor
      · intro z; rw [← Option.some.inj z]; exact .inl c.choose_spec
      · rintro (z | ⟨z, _⟩)
        · exact congrArg some (nwu c.choose_spec z)
        · exact absurd c z
    · rw [dif_neg c]
      by_cases c2 : ∃ i, io i ∧ ω p = some i
      · rw [if_pos c2]
        constructor
        · exact fun z => nomatch z
        · rintro (z | ⟨_, y, z⟩)
          · exact absurd ⟨l, z⟩ c
          · obtain ⟨i, h1, h2⟩ := c2
            rw [h2] at z
            exact absurd (Option.some.inj z ▸ h1) y
      · rw [if_neg c2]
        constructor
        · intro z; exact .inr ⟨c, fun y => c2 ⟨l, y, z⟩, z⟩
        · rintro (z | ⟨_, _, z⟩)
          · exact absurd ⟨l, z⟩ c
          · exact z
  have hown : ∀ p l, ω p = some l → ¬ io l → ¬ ∃ i, nw p i := fun p l h1 h2 ⟨i, j, h3, h4⟩ => by
    rcases (hS j p h4).2.2 with z | ⟨m, z⟩
    · exact (e.own p l h1).2.1 z
    · obtain ⟨q, y1, y2⟩ := ioF_get z
      rw [h1] at y2
      exact h2 ⟨m, by rw [y1, Option.some.inj y2]⟩
  have hW : ∀ p, (∃ j, ioF is ω j p) → B.H p = none ∨ B.W p := fun p ⟨j, hj⟩ => by
    obtain ⟨i, _, h2⟩ := ioF_get hj
    exact (e.own p i h2).2.2
  refine ⟨ω', ⟨e.base.ff.trans hsw.ff, hsw.fh, fun a o h n => ?_, fun a h => hsw.there a (e.base.there a h), fun a h1 h2 => hsw.old a (e.base.old a h1 h2) (e.base.there a h2)⟩, ?_, fun p l hl => ?_, fun l t hl => ?_⟩
  · refine hsw.hh a o (e.base.hh a o h n) fun z => ?_
    rcases hW a z with y | y
    · rw [y] at h; cases h
    · exact n y
  · rw [setAll_len]
    exact e.len
  · rcases (hω p l).mp hl with ⟨j, h1, h2⟩ | ⟨_, _, h3⟩
    · obtain ⟨x, y, z⟩ := hS j p h2
      refine ⟨x, y, ?_⟩
      rcases z with z | z
      · refine .inl ?_
        cases q : B.H p with
        | none => rfl
        | some o => exact absurd z (e.base.there p (by rw [q]; exact fun z => nomatch z))
      · exact hW p z
    · obtain ⟨x, y, z⟩ := e.own p l h3
      exact ⟨hsw.old p x y, hsw.there p y, z⟩
  · rcases setAll_get us Γ l t hl with h1 | ⟨h1, h2⟩
    · obtain ⟨j, hj, r⟩ := n1 _ h1
      refine slot_iff r fun p => ?_
      rw [hω p l]
      constructor
      · rintro (⟨j2, a, b⟩ | ⟨_, y, _⟩)
        · rw [hnd j j2 l hj a]; exact b
        · exact absurd ⟨j, hj⟩ y
      · exact fun z => .inl ⟨j, hj, z⟩
    · have hno : ¬ io l := fun ⟨j, hj⟩ => by
        obtain ⟨s, hs⟩ := n2 l j hj
        exact h2 _ hs rfl
      refine slot_iff (Slot.keep (e.slot l t h1) hsw.ff fun p hp => ?_) fun p => ?_
      · cases q : H p with
        | none => exact absurd q (e.own p l hp).2.1
        | some o =>
          refine hsw.hh p o q fun ⟨j, hj⟩ => ?_
          obtain ⟨i, y1, y2⟩ := ioF_get hj
          rw [hp] at y2
          exact hno ⟨j, by rw [y1, Option.some.inj y2]⟩
      · rw [hω p l]
        constructor
        · rintro (⟨j, a, _⟩ | ⟨_, _, z⟩)
          · exact absurd ⟨j, a⟩ hno
          · exact z
        · exact fun z => .inr ⟨hown p l z hno, hno, z⟩
/-- the new things of the slots, by what the def hands back -/
def NewOk (Γ : List Slot) {ι ο : Type} (P : ParG ι ο) (is : List (Option Nat)) (us : ο → List (Nat × Slot)) : Prop :=
  ∀ (K : PySem.W.Frag) (σ : L2.St) (F0 H0 : Hp) (ω0 : Ow) (vs : List V) (F H : Hp) (S : Nat → Fp) (o : ο), (∀ (i : Nat) (s : Slot), Γ[i]? = some s → s.ok K F0 H0 (fun p => ω0 p = some i) (σ[i]?.join)) → IoAt σ is vs → P.out K F H S vs o → NewAt K F H σ S is (us o)
theorem new_n : NewOk Γ gN [] (fun _ => []) := fun K σ F0 H0 ω0 vs F H S o _ _ _ => rfl
section
variable {ι ο α : Type} {P : ParG ι ο} {is : List (Option Nat)} {us : ο → List (Nat × Slot)} {T : Ty α} {O : Own α}
theorem new_i (h : NewOk Γ P is us) : NewOk Γ (gI T P) (none :: is) us := fun K σ F0 H0 ω0 vs F H S o e a ⟨v, ws, e1, r⟩ => by
  subst e1
  exact h K σ F0 H0 ω0 ws F H _ o e a r
theorem new_b (h : NewOk Γ P is us) : NewOk Γ (gB O P) (none :: is) us := fun K σ F0 H0 ω0 vs F H S o e a ⟨v, ws, e1, r⟩ => by
  subst e1
  exact h K σ F0 H0 ω0 ws F H _ o e a r
theorem new_o {i : Nat} {a0 : α} (h : NewOk Γ P is us) (hΓ : Γ[i]? = some (.on α O a0) := by rfl) : NewOk Γ (gO O P) (some i :: is) (fun o => (i, .on α O o.1) :: us o.2) := fun K σ F0 H0 ω0 vs F H S o e a ⟨v, ws, e1, r1, r⟩ => by
  subst e1
  obtain ⟨⟨v', hv', hs⟩, a⟩ := a
  cases hv'
  exact ⟨_, _, rfl, ⟨v, by rw [hs]; rfl, r1⟩, h K σ F0 H0 ω0 ws F H _ o.2 e a r⟩
theorem new_s {i : Nat} {a0 : α} {u : V} (h : NewOk Γ P is us) (hΓ : Γ[i]? = some (.on α (oIs u O) a0) := by rfl) : NewOk Γ (gO O P) (some i :: is) (fun o => (i, .on α (oIs u O) o.1) :: us o.2) := fun K σ F0 H0 ω0 vs F H S o e a ⟨v, ws, e1, r1, r⟩ => by
  subst e1
  obtain ⟨⟨v', hv', hs⟩, a⟩ := a
  cases hv'
  obtain ⟨v2, hv2, e2, _⟩ := e i _ hΓ
  rw [hs] at hv2
  cases hv2
  exact ⟨_, _, rfl, ⟨v, by rw [hs]; rfl, e2, r1⟩, h K σ F0 H0 ω0 ws F H _ o.2 e a r⟩
/-- what a slot holds, by its value -/
theorem io_own {K : PySem.W.Frag} {σ : L2.St} {F H : Hp} {ω : Ow} {v : V} {a : α} (en : EnvOk K B Γ σ F H ω) (i : Nat) (hv : σ[i]? = some (some v)) (hΓ : Γ[i]? = some (.on α O a) := by rfl) : O.rel K F H (fun p => ω p = some i) v a := by
  obtain ⟨v', e, r⟩ := en.slot i _ hΓ
  rw [hv] at e
  cases e
  exact r
theorem io_is {K : PySem.W.Frag} {σ : L2.St} {F H : Hp} {ω : Ow} {v u : V} {a : α} (en : EnvOk K B Γ σ F H ω) (i : Nat) (hv : σ[i]? = some (some v)) (hΓ : Γ[i]? = some (.on α (oIs u O) a) := by rfl) : O.rel K F H (fun p => ω p = some i) v a := (io_own en i hv hΓ).2
/-- .. lent -/
theorem bo_own {K : PySem.W.Frag} {σ : L2.St} {F H : Hp} {ω : Ow} {v : V} {a : α} {is : List (Option Nat)} (en : EnvOk K B Γ σ F H ω) (i : Nat) (hv : σ[i]? = some (some v)) (hn : some i ∉ is := by simp) (hΓ : Γ[i]? = some (.on α O a) := by rfl) : ∃ s : Fp, (∀ p, s p → H p ≠ none ∧ ¬ ∃ j, ioF is ω j p) ∧ O.rel K F H s v a :=
  ⟨_, fun p hp => ⟨(en.own p i hp).2.1, fun ⟨j, hj⟩ => by
    obtain ⟨l, h1, h2⟩ := ioF_get hj
    have hp' : ω p = some i := hp
    rw [hp'] at h2
    exact hn (Option.some.inj h2 ▸ List.mem_of_getElem? h1)⟩, io_own en i hv hΓ⟩
theorem bo_is {K : PySem.W.Frag} {σ : L2.St} {F H : Hp} {ω : Ow} {v u : V} {a : α} {is : List (Option Nat)} (en : EnvOk K B Γ σ F H ω) (i : Nat) (hv : σ[i]? = some (some v)) (hn : some i ∉ is := by simp) (hΓ : Γ[i]? = some (.on α (oIs u O) a) := by rfl) : ∃ s : Fp, (∀ p, s p → H p ≠ none ∧ ¬ ∃ j, ioF is ω j p) ∧ O.rel K F H s v a := by
  obtain ⟨s, h1, h2⟩ := bo_own en i hv hn hΓ
  exact ⟨s, h1, h2.2⟩
theorem bo_bor {K : PySem.W.Frag} {σ : L2.St} {F H : Hp} {ω : Ow} {v : V} {a : α} {is : List (Option Nat)} (en : EnvOk K B Γ σ F H ω) (i : Nat) (hv : σ[i]? = some (some v)) (hΓ : Γ[i]? = some (iS (tBor B O) a) := by rfl) : ∃ s : Fp, (∀ p, s p → H p ≠ none ∧ ¬ ∃ j, ioF is ω j p) ∧ O.rel K F H s v a := by
  obtain ⟨v', e, r⟩ := en.slot i _ hΓ
  rw [hv] at e
  cases e
  obtain ⟨S, h1, h2⟩ := bor_vw en F r
  refine ⟨S, fun p hp => ⟨(h1 p hp).1, fun ⟨j, hj⟩ => ?_⟩, h2⟩
  obtain ⟨l, _, h4⟩ := ioF_get hj
  rcases (en.own p l h4).2.2 with z | z
  · exact (h1 p hp).2.1 z
  · exact (h1 p hp).2.2 z
/-- .. where nothing is changed -/
theorem bo_no {K : PySem.W.Frag} {F H : Hp} {v : V} {a : α} {ω : Ow} {is : List (Option Nat)} (h : ∃ s : Fp, (∀ p, s p → H p ≠ none ∧ ¬ ∃ j, ioF is ω j p) ∧ O.rel K F H s v a) : ∃ s : Fp, (∀ p, s p → H p ≠ none ∧ ¬ False) ∧ O.rel K F H s v a := by
  obtain ⟨s, h1, h2⟩ := h
  exact ⟨s, fun p hp => ⟨(h1 p hp).1, id⟩, h2⟩
end
theorem nd_io {is : List (Option Nat)} (h : (is.filterMap id).Nodup) {j l i : Nat} (h1 : is[j]? = some (some i)) (h2 : is[l]? = some (some i)) : j = l := by
  induction is generalizing j l with
  | nil => simp at h1
  | cons x is ih =>
    have up : ∀ {m : Nat}, is[m]? = some (some i) → i ∈ is.filterMap id := fun {m} hm => by
      rw [List.mem_filterMap]
      exact ⟨some i, List.mem_of_getElem? hm, rfl⟩
    have nd : (is.filterMap id).Nodup := by
      cases x with
      | none => simpa using h
      | some y =>
        simp only [List.filterMap_cons, id] at h
        exact (List.nodup_cons.mp h).2
    cases j with
    | zero =>
      cases l with
      | zero => rfl
      | succ l =>
        simp at h1 h2
        subst h1
        simp only [List.filterMap_cons, id] at h
        exact absurd (up h2) (List.nodup_cons.mp h).1
    | succ j =>
      cases l with
      | zero =>
        simp at h1 h2
        subst h2
        simp only [List.filterMap_cons, id] at h
        exact absurd (up h1) (List.nodup_cons.mp h).1
      | succ l => exact congrArg (· + 1) (ih nd (by simpa using h1) (by simpa using h2))
/-- the arguments of a call -/
def CallP {ι ο : Type} (K : PySem.W.Frag) (P : ParG ι ο) (m : ι → Out ο) (dvs : List V) (is : List (Option Nat)) (σ : L2.St) (ω : Ow) (F H : Hp) (vs : List V) (o : Out ο) : Prop :=
  IoAt σ is (vs ++ dvs) ∧ ∃ i, o = m i ∧ P.rel K F H (fun p => ∃ j, ioF is ω j p) (ioF is ω) (vs ++ dvs) i
def CallB {ι ο β : Type} (K : PySem.W.Frag) (P : ParG ι ο) (m : ι → Out β) (dvs : List V) (_σ : L2.St) (_ω : Ow) (F H : Hp) (vs : List V) (o : Out β) : Prop := ∃ i, o = m i ∧ P.rel K F H (fun _ => False) (fun _ _ => False) (vs ++ dvs) i
section
variable {ι ο β : Type} {P : ParG ι ο} {mf : ι → Out β} {mp : ι → Out ο} {T : Ty β} {O : Own β} {j : Nat} {name : Str} {ps : List Str} {dvs : List V} {e : Expr} {es : List Expr} {m : Out β} {mo : Out ο} {p pos : Pos}
theorem we_callB (C : XC X N sc k E) (G : DefX X j name ps dvs (SpsB P mf T X.K)) (hk : j ≤ k) (ha : WAs X E B Γ (e :: es) (CallB X.K P mf dvs) m) (hg : GlN sc name := by rfl) (hdb : (name == ("__debug__" : Str)) = false := by decide)
    (he : starEach (e :: es) X.env = (false, eval e X.env) :: starEach es X.env := by rfl) (hpl : (backTo pos (starEach es X.env)).any (·.1) = false := by rfl) : WE X E B Γ (.Call (.Name name p) (e :: es) [] pos) T.rl m := fun σ F H ω Q en q => by
  obtain ⟨f, fd, ds, G, gm, kp, hb, hd⟩ := G
  exact ⟨_, pe_call G (C.room.mono hk) (gl_ C hg) gm kp hb hd C.pass pa_s hdb he hpl, ha σ F H ω _ _ en q fun vs F' H' o s ⟨i, e, r⟩ po => by
    subst e
    exact ⟨i, F', s.fh, r, po.mono (fun b q v F2 H2 s2 r2 => q v F2 H2 (s.trans s2) r2) fun x h => err_up en s h⟩⟩
theorem wo_callB (C : XC X N sc k E) (G : DefX X j name ps dvs (SpsBO P mf O X.K)) (hk : j ≤ k) (ha : WAs X E B Γ (e :: es) (CallB X.K P mf dvs) m) (hg : GlN sc name := by rfl) (hdb : (name == ("__debug__" : Str)) = false := by decide)
    (he : starEach (e :: es) X.env = (false, eval e X.env) :: starEach es X.env := by rfl) (hpl : (backTo pos (starEach es X.env)).any (·.1) = false := by rfl) : WO X E B Γ (.Call (.Name name p) (e :: es) [] pos) O m := fun σ F H ω Q en q => by
  obtain ⟨f, fd, ds, G, gm, kp, hb, hd⟩ := G
  exact ⟨_, pe_call G (C.room.mono hk) (gl_ C hg) gm kp hb hd C.pass pa_s hdb he hpl, ha σ F H ω _ _ en q fun vs F' H' o s ⟨i, e, r⟩ po => by
    subst e
    exact ⟨i, F', s.fh, r, po.mono (fun b q v F2 H2 S s2 d r2 => q v F2 H2 S (s.trans s2) (new_of s d) r2) fun x h => err_up en s h⟩⟩
/-- a call that changes things -/
theorem ws_callP {γ : Type} {D : γ → SOut} {b : List Stmt} {bs : List (List Stmt)} {f : ο → Out γ} {pos2 : Pos} (C : XC X N sc k E) (G : DefX X j name ps dvs (SpsP P mp X.K)) (hk : j ≤ k) (is : List (Option Nat)) (us : ο → List (Nat × Slot)) (hn : NewOk Γ P is us)
    (ha : WAs X E B Γ (e :: es) (CallP X.K P mp dvs is) mo) (hr : ∀ o, WS X E B (setAll Γ (us o)) (b :: bs) (f o) D) (hnd : (is.filterMap id).Nodup := by decide) (hg : GlN sc name := by rfl) (hdb : (name == ("__debug__" : Str)) = false := by decide)
    (he : starEach (e :: es) X.env = (false, eval e X.env) :: starEach es X.env := by rfl) (hpl : (backTo pos (starEach es X.env)).any (·.1) = false := by rfl) (hsw : swapsWith (.Call (.Name name p) (e :: es) [] pos) none pos2.line X.env = pure false := by rfl) :
    WS X E B Γ ((.Expr (.Call (.Name name p) (e :: es) [] pos) pos2 :: b) :: bs) (mo >>= f) D := fun σ F H ω En en q => by
  obtain ⟨f, fd, ds, G, gm, kp, hb, hd⟩ := G
  refine sK_cons ⟨_, ps_expr (pe_call G (C.room.mono hk) (gl_ C hg) gm kp hb hd C.pass pa_s hdb he hpl) hsw, ha σ F H ω _ _ en q.bind fun vs F' H' o s ⟨hio, i, e, r⟩ po => ?_⟩
  subst e
  have en' := en.stp s
  refine ⟨i, F', ioF is ω, s.fh, r, fun j p hp => ?_, fun j l p h1 h2 => ?_, po.mono (fun o q F2 H2 S' sw hS hd2 hout => ?_) fun x h cls d F2 H2 sw ee => ?_⟩
  · obtain ⟨i, _, h2⟩ := ioF_get hp
    exact ⟨(en'.own p i h2).1, (en'.own p i h2).2.1⟩
  · obtain ⟨i1, a1, b1⟩ := ioF_get h1
    obtain ⟨i2, a2, b2⟩ := ioF_get h2
    rw [b1] at b2
    cases b2
    exact nd_io hnd a1 a2
  · obtain ⟨ω', en2⟩ := env_call en' sw hS hd2 (fun j l i a1 a2 => nd_io hnd a1 a2) (hn X.K σ F' H' ω (vs ++ dvs) F2 H2 S' o en'.slot hio hout)
    exact hr o σ F2 H2 ω' En en2 (Post.imp q fun b z => EndOk.up z (s.ff.trans sw.ff))
  · refine h cls d F2 H2 ?_ ee
    have e1 := en'.base
    have hW : ∀ p, (∃ j, ioF is ω j p) → B.H p = none ∨ B.W p := fun p ⟨j, hj⟩ => by
      obtain ⟨i, _, h2⟩ := ioF_get hj
      exact (en'.own p i h2).2.2
    exact ⟨e1.ff.trans sw.ff, sw.fh, fun a o h n => sw.hh a o (e1.hh a o h n) fun z => by
      rcases hW a z with y | y
      · rw [y] at h; cases h
      · exact n y, fun a h => sw.there a (e1.there a h), fun a h1 h2 => sw.old a (e1.old a h1 h2) (e1.there a h2)⟩
end
end SL

set_option Elab.async false
set_option linter.all false
set_option maxRecDepth 100000
set_option maxHeartbeats 2000000
/-! SLx: dicts that are locked and walked; parallel assignments; op=; pops. -/
namespace SL
open PySem PySem.Spec PyProof.Rows L2
variable {X : Cx} {N : List Str} {sc : Scp} {k : Nat} {E : XK} {B : Bs} {Γ : List Slot}

theorem WAs.cast {es : List Expr} {β : Type} {c : L2.St → Ow → Hp → Hp → List V → Out β → Prop} {m m' : Out β} (h : WAs X E B Γ es c m) (q : m = m') : WAs X E B Γ es c m' := q ▸ h
/-! ### what is known to be at u, read -/
theorem vw_is {α : Type} {O : Own α} {u : V} : ∀ K F H v (a : α), Same F H → (oIs u O).vw.rel K F H v a → O.vw.rel K F H v a := fun K F H v a _ ⟨S, n, _, r⟩ => ⟨S, n, r⟩
theorem we_vwi (C : XC X N sc k E) (i : Nat) {x : Str} {pos : Pos} {α : Type} {O : Own α} {u : V} {a : α} (hΓ : Γ[i]? = some (.on α (oIs u O) a) := by rfl) (hN : N[i]? = some x := by rfl) (hv : Vis sc.sc x := by first | exact Or.inl rfl | exact Or.inr (Or.inl rfl) | exact Or.inr (Or.inr rfl))
    (hd : (x == ("__debug__" : Str)) = false := by decide) (hcd : (x == ("__classdict__" : Str)) = false := by decide) : WE X E B Γ (.Name x pos) O.vw (pure a) := (we_vw C i hΓ hN hv hd hcd).sub vw_is

/-! ### fixed dicts -/
def tDi {κ α : Type} [DecidableEq κ] (KD : KeyD κ) (T : Ty α) : Ty (List (κ × α)) := ⟨fun K F v a => ∃ p o vs, v = .ref p ∧ F p = some (.frz o (KD.ho ((a.map Prod.fst).zip vs))) ∧ Fa2 (T.rel K F) vs (a.map Prod.snd), fun s ⟨p, o, vs, e, h, r⟩ => ⟨p, o, vs, e, s _ _ h, r.imp fun _ _ => T.mono s⟩⟩
/-- the statements run with the thing at d locked from now on -/
def tLockN (t : TS) : TS := fun D σ H => ∃ d u, H d = some u ∧ Mut (some u) ∧ ∀ od, t D σ (upd H d (.frz od u))
theorem pss_lockN {ss : List Stmt} {t : TS} (h : PSs X ss t) : PSs X ss (tLockN t) := by
  refine ⟨fun pins s σ H D I hw => ?_⟩
  obtain ⟨d, u, hd, mu, hw⟩ := hw
  obtain ⟨od, I1⟩ := I.lock hd mu
  exact h.run pins s σ _ _ I1 (hw od)
theorem mut_ho {κ : Type} [DecidableEq κ] (KD : KeyD κ) (h : ∀ kvs, Mut (some (KD.ho kvs))) (kvs : List (κ × V)) : Mut (some (KD.ho kvs)) := h kvs
/-- the own dict in slot i is fixed -/
theorem ws_fzd {κ α β : Type} [DecidableEq κ] {KD : KeyD κ} {O : Own α} {T : Ty α} {D : β → SOut} {b : List Stmt} {bs : List (List Stmt)} {m : Out β} {a : List (κ × α)} (i : Nat) (z : Fz O T) (mu : ∀ kvs, Mut (some (KD.ho kvs))) (hW : ∀ p, ¬ B.W p) (hΓ : Γ[i]? = some (.on _ (oDi KD O) a)) (h : WS X E B (Γ.set i (iS (tDi KD T) a)) (b :: bs) m D) : WS X E B Γ (b :: bs) m D := fun σ F H ω En en q => by
  classical
  obtain ⟨v, hv, hn, p, vs, ss, e, sp, hp, it, hs, hd⟩ := en.slot i _ hΓ
  subst e
  have hi : ω p = some i := sp
  obtain ⟨p1, p2, p3⟩ := en.own p i hi
  have p3 := p3.resolve_right (hW p)
  suffices hh : ∀ od, sSs X b { En with nx := fun σ' H' => sK X bs En σ' H' } σ (upd H p (.frz od (KD.ho ((a.map Prod.fst).zip vs)))) by
    refine ⟨_, pss_lockN pss_s, p, _, hp, mu _, fun od => hh od⟩
  intro od
  let S : Fp := fun q => ω q = some i ∧ q ≠ p
  have dj : ∀ q, S q → F q = none := fun q hq => (en.own q i hq.1).1
  let F' : Hp := fun q => if q = p then some (.frz od (KD.ho ((a.map Prod.fst).zip vs))) else frz F H S q
  have F'p : F' p = some (.frz od (KD.ho ((a.map Prod.fst).zip vs))) := if_pos rfl
  have F'n : ∀ q, q ≠ p → F' q = frz F H S q := fun q hq => if_neg hq
  have sm : Same F F' := fun q o hq => by
    rw [F'n q (fun z => by rw [z, p1] at hq; cases hq)]
    exact frz_same dj q o hq
  have fh : Same F' (upd H p (.frz od (KD.ho ((a.map Prod.fst).zip vs)))) := fun q o hq => by
    by_cases c : q = p
    · subst c
      rw [F'p] at hq
      rw [upd_same]; exact hq
    · rw [F'n q c] at hq
      rw [upd_ne c]
      exact frz_sub en.base.fh q o hq
  have en' : EnvOk X.K B (Γ.set i (iS (tDi KD T) a)) σ F' (upd H p (.frz od (KD.ho ((a.map Prod.fst).zip vs)))) (fun q => if ω q = some i then none else ω q) := by
    refine ⟨⟨en.base.ff.trans sm, fh, fun q o hq hw => ?_, fun q hq => ?_, fun q h1 h2 => ?_⟩, by rw [List.length_set, en.len], fun q j hj => ?_, fun j t hj => ?_⟩
    · rw [upd_ne (fun z => by rw [z, p3] at hq; cases hq)]
      exact en.base.hh q o hq hw
    · by_cases c : q = p
      · rw [c, upd_same]; exact fun z => nomatch z
      · rw [upd_ne c]; exact en.base.there q hq
    · have c : q ≠ p := fun z => h2 (z ▸ p3)
      rw [F'n q c]
      by_cases c2 : S q
      · exact absurd ((en.own q i c2.1).2.2.resolve_right (hW q)) h2
      · rw [frz_out c2]
        exact en.base.old q h1 h2
    · by_cases c : ω q = some i
      · rw [if_pos c] at hj; cases hj
      · rw [if_neg c] at hj
        have cp : q ≠ p := fun z => c (z ▸ hi)
        obtain ⟨z1, z2, z3⟩ := en.own q j hj
        exact ⟨by rw [F'n q cp, frz_out (fun z : S q => c z.1)]; exact z1, by rw [upd_ne cp]; exact z2, z3⟩
    · by_cases c : i = j
      · subst c
        have hil : i < Γ.length := (List.getElem?_eq_some_iff.mp hΓ).1
        rw [List.getElem?_set_self hil] at hj
        cases hj
        refine ⟨_, hv, p, od, vs, rfl, F'p, ?_⟩
        have := its_fz z dj it (fun s hm q hq => hs s hm q hq)
        refine this.imp fun w x r => T.mono (fun q o hq => ?_) r
        by_cases c2 : q = p
        · subst c2
          rw [frz_out (fun z : S q => z.2 rfl), p1] at hq
          cases hq
        · rw [F'n q c2]; exact hq
      · rw [List.getElem?_set_ne c] at hj
        refine slot_iff (Slot.keep (en.slot j t hj) sm fun q hq => upd_ne fun z => ?_) fun q => ?_
        · have hq' : ω q = some j := hq
          rw [z, hi] at hq'
          exact c (Option.some.inj hq')
        · by_cases c2 : ω q = some i
          · simp only [if_pos c2]
            rw [c2]
            exact ⟨(fun z => nomatch z), fun z => absurd (Option.some.inj z) c⟩
          · simp only [if_neg c2]
  exact h σ F' _ _ En en' (q.imp fun b z => EndOk.up z sm)
theorem mut_I (kvs : List (Int × V)) : Mut (some (kdI.ho kvs)) := trivial
theorem mut_P (kvs : List ((Int × Int) × V)) : Mut (some (kdP.ho kvs)) := trivial
theorem mut_T (kvs : List ((Int × Int × Int) × V)) : Mut (some (kdT.ho kvs)) := trivial
theorem mut_S (kvs : List (Str × V)) : Mut (some (kdS.ho kvs)) := trivial
section
variable {κ α : Type} [DecidableEq κ] {KD : KeyD κ} {T : Ty α} {e1 e2 : Expr} {m : Out (List (κ × α))} {mk : Out κ} {pos : Pos}
theorem di_get {K : PySem.W.Frag} {F : Hp} {v : V} {a : List (κ × α)} (h : (tDi KD T).rel K F v a) : ∃ p o kvs, v = .ref p ∧ F p = some (.frz o (KD.ho kvs)) ∧ kvs.length = a.length ∧ (∀ k, aget a k = none → aget kvs k = none) ∧ ∀ (k : κ) (b : α), aget a k = some b → ∃ w, aget kvs k = some w ∧ T.rel K F w b := by
  obtain ⟨p, o, vs, e, hp, r⟩ := h
  have hl : vs.length = a.length := by simpa using r.len
  refine ⟨p, o, _, e, hp, di_len hl, fun k h => (afind_none_zip (as := a.map Prod.snd) (bs := vs) (by simp) (by simp [hl]) (by rw [zip_self]; exact afind_of_none h)).2, fun k b h => ?_⟩
  obtain ⟨j, h1, h2⟩ := aget_find h
  obtain ⟨w, hw, rw'⟩ := r.get (show (a.map Prod.snd)[j]? = some b by rw [List.getElem?_map, h2]; rfl)
  exact ⟨w, (aget_zip (ks := a.map Prod.fst) (as := a.map Prod.snd) (bs := vs) (by simp) (by simp [hl]) (by rw [zip_self]; exact h1)).2 w hw, rw'⟩
/-- d[k] -/
theorem we_fdget (C : XC X N sc k E) (h1 : WE X E B Γ e1 (tDi KD T).rl m) (h2 : WE X E B Γ e2 KD.T.rl mk) (hs : NoSl e2 := by intro _ _; rfl) : WE X E B Γ (.Subscript e1 e2 pos) T.rl (m >>= fun a => mk >>= fun i => agetO a i) := fun σ F H ω Q en q => by
  refine ⟨_, pe_dget (hu1 C) pe_s pe_s hs, ?_⟩
  refine h1 σ F H ω _ en (q.bind.imp fun a q v F1 H1 s1 r1 => ?_)
  refine h2 σ F1 H1 ω _ (en.stp s1) (q.bind.imp fun i q y F2 H2 s2 ry => ?_)
  obtain ⟨p, o, kvs, e, hp, _, _, hg⟩ := di_get ((tDi KD T).mono s2.ff r1)
  unfold agetO at q
  cases hq : aget a i with
  | none => rw [hq] at q; exact q.elim
  | some b =>
    rw [hq] at q
    obtain ⟨w, hw, rw'⟩ := hg i b hq
    exact ⟨p, w, e, by rw [← hw]; exact KD.get kvs s2.fh ry (.inr ⟨o, s2.fh _ _ hp⟩), q w F2 H2 (s1.trans s2) rw'⟩
theorem wt_fdin (C : XC X N sc k E) (h1 : WE X E B Γ e2 KD.T.rl mk) (h2 : WE X E B Γ e1 (tDi KD T).rl m) (hm : behindInMarks .In e1 = false := by with_unfolding_all rfl) : WT X E B Γ (.Compare e2 [.In] [e1] pos) (mk >>= fun i => m >>= fun a => pure (aget a i).isSome) := fun σ F H ω Q en q => by
  refine ⟨_, pt_cmp (pc_din (hu1 C) pe_s pe_s) hm, ?_⟩
  refine h1 σ F H ω _ en (q.bind.imp fun i q y F1 H1 s1 ry => ?_)
  refine h2 σ F1 H1 ω _ (en.stp s1) (q.bind.imp fun a q v F2 H2 s2 r2 => ?_)
  obtain ⟨p, o, kvs, e, hp, _, hn, hg⟩ := di_get r2
  refine ⟨p, aget kvs i, e, KD.get kvs s2.fh (KD.T.mono s2.ff ry) (.inr ⟨o, s2.fh _ _ hp⟩), ?_⟩
  have : (aget kvs i).isSome = (aget a i).isSome := by
    cases hq : aget a i with
    | none => rw [hn i hq] <;> rfl
    | some b =>
      obtain ⟨w, hw, _⟩ := hg i b hq
      rw [hw]; rfl
  rw [this]
  exact ⟨_, rfl, q F2 H2 (s1.trans s2)⟩
end
def LenD (H : Hp) : Prop := ∀ p (kvs : List (Key × V)), Rd H p (.dK kvs) → kvs.length ≤ sizeLine
theorem pe_lenDQ {e : Expr} {t : TE} (h : PE X e t) : PE X e (fun σ H Q => t σ H fun v H' => LenD H' → Q v H') := ⟨fun pins s σ H Q I q =>
  thn (h.run pins s σ H _ I q) fun u s' ⟨v, H', I', r, q'⟩ => ⟨v, H', I', r, q' fun p kvs h => (dk_rd I'.hok h).1⟩⟩
/-- for k in d, ints -/
theorem wi_keys {α : Type} {T : Ty α} {tg e : Expr} {m : Out (List (Int × α))} (h : WE X E B Γ e (tDi kdI T).rl m) : WI X E B Γ tg e tInt (m >>= fun a => pure (a.map Prod.fst)) := fun σ F H ω R en q => by
  refine ⟨_, pi_keys (pe_lenDQ pe_s), ?_⟩
  refine h σ F H ω _ en (q.bind.imp fun a q v F1 H1 s1 r hl => ?_)
  obtain ⟨p, o, vs, e, hp, r⟩ := r
  have hv : vs.length = a.length := by simpa using r.len
  let kvs : List (Key × V) := ((a.map Prod.fst).zip vs).map fun x => (ki x.1, x.2)
  have hk : kvs.length = a.length := by simp [kvs, hv]
  refine ⟨p, o, e, .inl ⟨kvs, s1.fh _ _ hp, ?_⟩⟩
  have getk : ∀ (i : Nat) (kk : Key) (w : V), kvs[i]? = some (kk, w) → ∃ x : Int × α, a[i]? = some x ∧ kk = ki x.1 := fun i kk w hw => by
    simp only [kvs, List.getElem?_map] at hw
    cases hz : ((a.map Prod.fst).zip vs)[i]? with
    | none => rw [hz] at hw; cases hw
    | some z =>
      rw [hz] at hw
      cases hw
      have h1 := (List.getElem?_zip_eq_some.mp hz).1
      rw [List.getElem?_map] at h1
      cases hx : a[i]? with
      | none => rw [hx] at h1; cases h1
      | some x =>
        rw [hx] at h1
        exact ⟨x, rfl, congrArg ki (Option.some.inj h1).symm⟩
  refine q _ F1 H1 s1 ⟨fun i F H hi sf sh => ⟨sh _ _ (sf _ _ hp), by rw [hk]; simpa using hi⟩, fun F H sf sh => ⟨sh _ _ (sf _ _ hp), by rw [hk]; simp⟩, fun i F H x H' hi sf sh y => ?_⟩ ?_
  · obtain ⟨e2, kk, w, hw, hx⟩ := y
    subst e2
    obtain ⟨z, hz, ek⟩ := getk i kk w hw
    subst ek
    exact ⟨F, z.1, Stp.refl sh, by rw [List.getElem?_map, hz]; rfl, hx⟩
  · have := hl p kvs (.inr ⟨o, s1.fh _ _ hp⟩)
    rw [hk] at this
    simpa using this

/-! ### a, b = e, f -/
section
variable {γ : Type} {D : γ → SOut} {b : List Stmt} {bs : List (List Stmt)} {x y z : Str} {px py pz pt pt2 pos : Pos} {e1 e2 e3 : Expr} {α β δ : Type} {T : Ty α} {U : Ty β} {W : Ty δ} {m1 : Out α} {m2 : Out β} {m3 : Out δ} {kt k2 : Nat}
theorem ws_par2 (C : XC X N sc k E) (i j : Nat) {f : α → β → Out γ} (h1 : WE X E B Γ e1 T.rl m1) (h2 : WE X E B Γ e2 U.rl m2) (hr : ∀ a b', WS X E B ((Γ.set i (iS T a)).set j (iS U b')) (b :: bs) (f a b') D) (hi : N[i]? = some x := by rfl) (hj : N[j]? = some y := by rfl) (hij : i ≠ j := by decide)
    (hx : sc.sc.names.lookup x = some .local := by rfl) (hy : sc.sc.names.lookup y = some .local := by rfl) (s1 : starEach (e1 :: e2 :: []) X.env = (false, eval e1 X.env) :: starEach (e2 :: []) X.env := by rfl) (s2 : starEach (e2 :: []) X.env = (false, eval e2 X.env) :: starEach [] X.env := by rfl)
    (hw : ∀ env : Env, env.scope = sc.sc → swappedStores [.Tuple [.Name x px, .Name y py] kt pt] (.Tuple [e1, e2] k2 pt2) env = pure (some [x, y]) := by intro env he; cases env; cases he; first | rfl | kernel_rfl) (hs : swapsWithSole [.Tuple [.Name x px, .Name y py] kt pt] (.Tuple [e1, e2] k2 pt2) pos.line X.env = pure false := by rfl) :
    WS X E B Γ ((.Assign [.Tuple [.Name x px, .Name y py] kt pt] (.Tuple [e1, e2] k2 pt2) pos :: b) :: bs) (m1 >>= fun a => m2 >>= fun b => f a b) D := fun σ F H ω En en q => by
  refine sK_cons ⟨_, ps_par C.calm (by rw [C.nm]; exact C.nd) (by rw [C.nm]; exact hi) (by rw [C.nm]; exact hj) hij (by rw [C.scp]; exact hx) (by rw [C.scp]; exact hy) (pa_cons pe_s (pa_cons pe_s pa_nil s2) s1) (hw _ C.scp) hs, ?_⟩
  refine h1 σ F H ω _ en (q.bind.imp fun a q v F1 H1 s1 r1 => ?_)
  refine h2 σ F1 H1 ω _ (en.stp s1) (q.bind.imp fun b q w F2 H2 s2 r2 => ⟨v, w, rfl, ?_⟩)
  have e1 := env_set (i := i) ((en.stp s1).stp s2) (v := v) (s := iS T a) fun S => ⟨v, rfl, T.mono s2.ff r1⟩
  have e2 := env_set (i := j) e1 (v := w) (s := iS U b) fun S => ⟨w, rfl, r2⟩
  exact hr a b _ F2 H2 _ En e2 (q.imp fun b z => EndOk.up z (s1.ff.trans s2.ff))
theorem ws_par3 (C : XC X N sc k E) (i j l : Nat) {f : α → β → δ → Out γ} (h1 : WE X E B Γ e1 T.rl m1) (h2 : WE X E B Γ e2 U.rl m2) (h3 : WE X E B Γ e3 W.rl m3) (hr : ∀ a b' c, WS X E B (((Γ.set i (iS T a)).set j (iS U b')).set l (iS W c)) (b :: bs) (f a b' c) D) (hi : N[i]? = some x := by rfl) (hj : N[j]? = some y := by rfl) (hl : N[l]? = some z := by rfl)
    (hij : i ≠ j := by decide) (hil : i ≠ l := by decide) (hjl : j ≠ l := by decide) (hx : sc.sc.names.lookup x = some .local := by rfl) (hy : sc.sc.names.lookup y = some .local := by rfl) (hz : sc.sc.names.lookup z = some .local := by rfl)
    (s1 : starEach (e1 :: e2 :: e3 :: []) X.env = (false, eval e1 X.env) :: starEach (e2 :: e3 :: []) X.env := by rfl) (s2 : starEach (e2 :: e3 :: []) X.env = (false, eval e2 X.env) :: starEach (e3 :: []) X.env := by rfl) (s3 : starEach (e3 :: []) X.env = (false, eval e3 X.env) :: starEach [] X.env := by rfl)
    (hw : ∀ env : Env, env.scope = sc.sc → swappedStores [.Tuple [.Name x px, .Name y py, .Name z pz] kt pt] (.Tuple [e1, e2, e3] k2 pt2) env = pure (some [x, y, z]) := by intro env he; cases env; cases he; first | rfl | kernel_rfl)
    (hs : swapsWithSole [.Tuple [.Name x px, .Name y py, .Name z pz] kt pt] (.Tuple [e1, e2, e3] k2 pt2) pos.line X.env = pure false := by rfl) :
    WS X E B Γ ((.Assign [.Tuple [.Name x px, .Name y py, .Name z pz] kt pt] (.Tuple [e1, e2, e3] k2 pt2) pos :: b) :: bs) (m1 >>= fun a => m2 >>= fun b => m3 >>= fun c => f a b c) D := fun σ F H ω En en q => by
  refine sK_cons ⟨_, ps_par3 C.calm (by rw [C.nm]; exact C.nd) (by rw [C.nm]; exact hi) (by rw [C.nm]; exact hj) (by rw [C.nm]; exact hl) hij hil hjl (by rw [C.scp]; exact hx) (by rw [C.scp]; exact hy) (by rw [C.scp]; exact hz) (pa_cons pe_s (pa_cons pe_s (pa_cons pe_s pa_nil s3) s2) s1) (hw _ C.scp) hs, ?_⟩
  refine h1 σ F H ω _ en (q.bind.imp fun a q v F1 H1 s1 r1 => ?_)
  refine h2 σ F1 H1 ω _ (en.stp s1) (q.bind.imp fun b q w F2 H2 s2 r2 => ?_)
  refine h3 σ F2 H2 ω _ ((en.stp s1).stp s2) (q.bind.imp fun c q u F3 H3 s3 r3 => ⟨v, w, u, rfl, ?_⟩)
  have e1 := env_set (i := i) (((en.stp s1).stp s2).stp s3) (v := v) (s := iS T a) fun S => ⟨v, rfl, T.mono (s2.ff.trans s3.ff) r1⟩
  have e2 := env_set (i := j) e1 (v := w) (s := iS U b) fun S => ⟨w, rfl, U.mono s3.ff r2⟩
  have e3 := env_set (i := l) e2 (v := u) (s := iS W c) fun S => ⟨u, rfl, r3⟩
  exact hr a b c _ F3 H3 _ En e3 (q.imp fun b z => EndOk.up z ((s1.ff.trans s2.ff).trans s3.ff))
end

/-! ### op= -/
section
variable {γ : Type} {D : γ → SOut} {b : List Stmt} {bs : List (List Stmt)} {x : Str} {p pos : Pos} {e : Expr} {me : Out Int} {f : Int → Out γ} {a : Int}
theorem ws_augN (C : XC X N sc k E) (i : Nat) {op : Operator} {g : Int → Int → Int} (ho : PIp X op (ipI g)) (h : WE X E B Γ e tInt.rl me) (hr : ∀ c, WS X E B (Γ.set i (iS tInt c)) (b :: bs) (f c) D) (hΓ : Γ[i]? = some (iS tInt a) := by rfl) (hN : N[i]? = some x := by rfl) (hl : L2.Loc sc.raw x := by first | exact Or.inl rfl | exact Or.inr rfl) :
    WS X E B Γ ((.AugAssign (.Name x p) op e pos :: b) :: bs) ((me >>= fun y => pure (g a y)) >>= f) D := fun σ F H ω En en q => by
  refine sK_cons ⟨_, ps_aug (by rw [C.nm]; exact C.nd) (by rw [C.nm]; exact hN) (C.loc _ hl).1 pe_s ho (C.loc _ hl).2, ?_⟩
  obtain ⟨v, hv, r⟩ := en.slot i _ hΓ
  refine ⟨v, join_some hv, h σ F H ω _ en (q.bind.bind.imp fun y q w F1 H1 s1 r1 => ⟨a, y, r, r1, ?_⟩)⟩
  exact hr (g a y) _ F1 H1 _ En (env_set (en.stp s1) fun S => ⟨_, rfl, rfl⟩) (Post.imp q fun b z => EndOk.up z s1.ff)
theorem ws_augAdd (C : XC X N sc k E) (i : Nat) {m' : Out Int} (h : WE X E B Γ e tInt.rl me) (hm : (me >>= fun y => pure (a + y)) = m') (hr : ∀ c, WS X E B (Γ.set i (iS tInt c)) (b :: bs) (f c) D) (hΓ : Γ[i]? = some (iS tInt a) := by rfl) (hN : N[i]? = some x := by rfl) (hl : L2.Loc sc.raw x := by first | exact Or.inl rfl | exact Or.inr rfl) :
    WS X E B Γ ((.AugAssign (.Name x p) .Add e pos :: b) :: bs) (m' >>= f) D := by
  subst hm
  exact ws_augN C i ip_add h hr hΓ hN hl
theorem ws_augSub (C : XC X N sc k E) (i : Nat) {m' : Out Int} (h : WE X E B Γ e tInt.rl me) (hm : (me >>= fun y => pure (a - y)) = m') (hr : ∀ c, WS X E B (Γ.set i (iS tInt c)) (b :: bs) (f c) D) (hΓ : Γ[i]? = some (iS tInt a) := by rfl) (hN : N[i]? = some x := by rfl) (hl : L2.Loc sc.raw x := by first | exact Or.inl rfl | exact Or.inr rfl) :
    WS X E B Γ ((.AugAssign (.Name x p) .Sub e pos :: b) :: bs) (m' >>= f) D := by
  subst hm
  exact ws_augN C i ip_sub h hr hΓ hN hl
end

/-! ### pops -/
/-- the last thing, the thing at i, and the rest -/
def popO {α : Type} (xs : List α) : Out (α × List α) := match xs.getLast? with
  | some x => pure (x, xs.dropLast)
  | none => .stuck
def popAtO {α : Type} (xs : List α) (i : Int) : Out (α × List α) := match ixN xs.length i with
  | none => .stuck
  | some j => match xs[j]? with
    | some x => if -(2 ^ 63) ≤ i ∧ i < 2 ^ 63 then pure (x, xs.eraseIdx j) else .stuck
    | none => .stuck
theorem ixN_seq0 {n : Nat} {i : Int} {j : Nat} (h : ixN n i = some j) : seqIndex? i n = some j := (ixN_seq h).1
section
variable {γ : Type} {D : γ → SOut} {b : List Stmt} {bs : List (List Stmt)} {x y : Str} {p p1 p2 p3 pos : Pos} {e : Expr} {α : Type} {T : Ty α} {xs : List α} {mi : Out Int} {f : α × List α → Out γ}
/-- x = y.pop() -/
theorem ws_pop0 (C : XC X N sc k E) (i j : Nat) (hr : ∀ r : α × List α, WS X E B ((Γ.set i (.on _ (oLst T) r.2)).set j (iS T r.1)) (b :: bs) (f r) D) (hΓ : Γ[i]? = some (.on _ (oLst T) xs) := by rfl) (hN : N[i]? = some y := by rfl) (hM : N[j]? = some x := by rfl) (hv : Vis sc.sc y := by first | exact Or.inl rfl | exact Or.inr (Or.inl rfl) | exact Or.inr (Or.inr rfl))
    (hl : L2.Loc sc.raw x := by first | exact Or.inl rfl | exact Or.inr rfl) (hd : (y == ("__debug__" : Str)) = false := by decide) (hcd : (y == ("__classdict__" : Str)) = false := by decide) (hbase : attributeBase (.Name y p1) "pop" X.env (eval (.Name y p1) X.env) = eval (.Name y p1) X.env := by rfl)
    (hline : (p2.endLine == p3.line) = true := by rfl) (hs : swapsWith (.Call (.Attribute (.Name y p1) "pop" p2) [] [] p3) (some (.Name x p)) pos.line X.env = pure false := by rfl) :
    WS X E B Γ ((.Assign [.Name x p] (.Call (.Attribute (.Name y p1) "pop" p2) [] [] p3) pos :: b) :: bs) (popO xs >>= f) D := fun σ F H ω En en q => by
  refine sK_cons ⟨_, ps_set (by rw [C.nm]; exact C.nd) (by rw [C.nm]; exact hM) (C.loc _ hl).1 (pe_bm0 PySem.F.plainAttrs_list PySem.F.slot_list_pop PySem.F.type_list_pop mt_pop (pv_ C hN hv hd hcd) hbase hline) hs (C.loc _ hl).2, ?_⟩
  obtain ⟨l, vs, hσ, hl', hH, r⟩ := own_lst en hΓ
  unfold popO at q
  cases hx : xs.getLast? with
  | none => rw [hx] at q; exact q.elim
  | some z =>
    rw [hx] at q
    have hz : xs[xs.length - 1]? = some z := by rw [← List.getLast?_eq_getElem?]; exact hx
    obtain ⟨w, hw, rw'⟩ := r.get hz
    refine ⟨_, hσ, .inl ⟨rfl, _, SqL.of hH⟩, l, vs, w, rfl, rfl, hH, by rw [r.len]; exact hw, ?_⟩
    have hdl : Fa2 (T.rel X.K F) vs.dropLast xs.dropLast := by
      rw [List.dropLast_eq_take, List.dropLast_eq_take, r.len]
      exact r.take _
    have e1 := env_lst en hΓ hσ hl' hdl
    exact hr _ _ F _ _ En (env_set (i := j) e1 (v := w) (s := iS T z) fun S => ⟨w, rfl, rw'⟩) q
/-- x = y.pop(e) -/
theorem ws_popI (C : XC X N sc k E) (i j : Nat) (hi : WE X E B Γ e tInt.rl mi) (hr : ∀ r : α × List α, WS X E B ((Γ.set i (.on _ (oLst T) r.2)).set j (iS T r.1)) (b :: bs) (f r) D) (hΓ : Γ[i]? = some (.on _ (oLst T) xs) := by rfl) (hN : N[i]? = some y := by rfl) (hM : N[j]? = some x := by rfl) (hv : Vis sc.sc y := by first | exact Or.inl rfl | exact Or.inr (Or.inl rfl) | exact Or.inr (Or.inr rfl))
    (hl : L2.Loc sc.raw x := by first | exact Or.inl rfl | exact Or.inr rfl) (hd : (y == ("__debug__" : Str)) = false := by decide) (hcd : (y == ("__classdict__" : Str)) = false := by decide) (hbase : attributeBase (.Name y p1) "pop" X.env (eval (.Name y p1) X.env) = eval (.Name y p1) X.env := by rfl)
    (hfew : ((backTo p3 (starEach (e :: []) X.env)).all (fun x => !x.1) && (backToKw p3 (keywordEach [] X.env)).all (fun x => x.1.isSome) && decide ((e :: []).length + ([] : List Keyword).length + (if ([] : List Keyword).isEmpty then 0 else 1) < 30)) = true := by rfl)
    (hline : (p2.endLine == p3.line) = true := by rfl) (hst : starEach (e :: []) X.env = (false, eval e X.env) :: starEach [] X.env := by rfl) (hs : swapsWith (.Call (.Attribute (.Name y p1) "pop" p2) [e] [] p3) (some (.Name x p)) pos.line X.env = pure false := by rfl) :
    WS X E B Γ ((.Assign [.Name x p] (.Call (.Attribute (.Name y p1) "pop" p2) [e] [] p3) pos :: b) :: bs) (mi >>= fun n => popAtO xs n >>= f) D := fun σ F H ω En en q => by
  refine sK_cons ⟨_, ps_set (by rw [C.nm]; exact C.nd) (by rw [C.nm]; exact hM) (C.loc _ hl).1 (pe_bm PySem.F.plainAttrs_list PySem.F.slot_list_pop PySem.F.type_list_pop mt_popAt (pv_ C hN hv hd hcd) (pa_cons pe_s pa_nil hst) hbase hfew hline hst) hs (C.loc _ hl).2, ?_⟩
  obtain ⟨l, vs, hσ, hl', hH, r⟩ := own_lst en hΓ
  refine ⟨_, hσ, .inl ⟨rfl, _, SqL.of hH⟩, hi σ F H ω _ en (q.bind.imp fun n q v F1 H1 s1 rn => ?_)⟩
  have en1 := en.stp s1
  have r1 : Fa2 (T.rel X.K F1) vs xs := r.imp fun _ _ => T.mono s1.ff
  unfold popAtO at q
  cases hx : ixN xs.length n with
  | none => rw [hx] at q; exact q.elim
  | some c =>
    simp only [hx] at q
    cases hz : xs[c]? with
    | none => rw [hz] at q; exact q.elim
    | some z =>
      rw [hz] at q
      by_cases hb : -(2 ^ 63) ≤ n ∧ n < 2 ^ 63
      · simp only [if_pos hb] at q
        obtain ⟨w, hw, rw'⟩ := r1.get hz
        refine ⟨l, vs, n, c, w, rfl, by rw [show v = .int n from rn], s1.hh _ _ hH, hb.1, hb.2, by rw [r.len]; exact ixN_seq0 hx, hw, ?_⟩
        have e1 := env_lst en1 hΓ hσ hl' (r1.erase c)
        exact hr _ _ F1 _ _ En (env_set (i := j) e1 (v := w) (s := iS T z) fun S => ⟨w, rfl, rw'⟩) (Post.imp q fun b z => EndOk.up z s1.ff)
      · simp only [if_neg hb] at q
        exact q.elim
/-- x.append(y.pop(e)) -/
theorem ws_appPop (C : XC X N sc k E) (j i : Nat) {ys : List α} {p4 p5 p6 : Pos} {f : α × List α → List α → Out γ} (hi : WE X E B Γ e tInt.rl mi) (hr : ∀ (r : α × List α) (l : List α), WS X E B ((Γ.set i (.on _ (oLst T) r.2)).set j (.on _ (oLst T) l)) (b :: bs) (f r l) D) (hΓ : Γ[i]? = some (.on _ (oLst T) xs) := by rfl) (hΓj : Γ[j]? = some (.on _ (oLst T) ys) := by rfl) (hij : i ≠ j := by decide)
    (hN : N[i]? = some y := by rfl) (hM : N[j]? = some x := by rfl) (hv : Vis sc.sc y := by first | exact Or.inl rfl | exact Or.inr (Or.inl rfl) | exact Or.inr (Or.inr rfl)) (hvx : Vis sc.sc x := by first | exact Or.inl rfl | exact Or.inr (Or.inl rfl) | exact Or.inr (Or.inr rfl))
    (hd : (y == ("__debug__" : Str)) = false := by decide) (hcd : (y == ("__classdict__" : Str)) = false := by decide) (hdx : (x == ("__debug__" : Str)) = false := by decide) (hcdx : (x == ("__classdict__" : Str)) = false := by decide)
    (hbase : attributeBase (.Name y p1) "pop" X.env (eval (.Name y p1) X.env) = eval (.Name y p1) X.env := by rfl)
    (hfew : ((backTo p3 (starEach (e :: []) X.env)).all (fun x => !x.1) && (backToKw p3 (keywordEach [] X.env)).all (fun x => x.1.isSome) && decide ((e :: []).length + ([] : List Keyword).length + (if ([] : List Keyword).isEmpty then 0 else 1) < 30)) = true := by rfl)
    (hline : (p2.endLine == p3.line) = true := by rfl) (hst : starEach (e :: []) X.env = (false, eval e X.env) :: starEach [] X.env := by rfl)
    (hbase2 : attributeBase (.Name x p4) "append" X.env (eval (.Name x p4) X.env) = eval (.Name x p4) X.env := by rfl)
    (hfew2 : ((backTo p6 (starEach ((.Call (.Attribute (.Name y p1) "pop" p2) [e] [] p3) :: []) X.env)).all (fun x => !x.1) && (backToKw p6 (keywordEach [] X.env)).all (fun x => x.1.isSome) && decide (((.Call (.Attribute (.Name y p1) "pop" p2) [e] [] p3) :: [] : List Expr).length + ([] : List Keyword).length + (if ([] : List Keyword).isEmpty then 0 else 1) < 30)) = true := by rfl)
    (hline2 : (p5.endLine == p6.line) = true := by rfl) (hst2 : starEach ((.Call (.Attribute (.Name y p1) "pop" p2) [e] [] p3) :: []) X.env = (false, eval (.Call (.Attribute (.Name y p1) "pop" p2) [e] [] p3) X.env) :: starEach [] X.env := by rfl)
    (hsw : swapsWith (.Call (.Attribute (.Name x p4) "append" p5) [.Call (.Attribute (.Name y p1) "pop" p2) [e] [] p3] [] p6) none pos.line X.env = pure false := by rfl) :
    WS X E B Γ ((.Expr (.Call (.Attribute (.Name x p4) "append" p5) [.Call (.Attribute (.Name y p1) "pop" p2) [e] [] p3] [] p6) pos :: b) :: bs) (mi >>= fun n => popAtO xs n >>= fun r => appO ys r.1 >>= fun l => f r l) D := fun σ F H ω En en q => by
  refine sK_cons ⟨_, ps_expr (pe_bm PySem.F.plainAttrs_list PySem.F.slot_list_append PySem.F.type_list_append mt_append (pv_ C hM hvx hdx hcdx) (pa_cons (pe_bm PySem.F.plainAttrs_list PySem.F.slot_list_pop PySem.F.type_list_pop mt_popAt (pv_ C hN hv hd hcd) (pa_cons pe_s pa_nil hst) hbase hfew hline hst) pa_nil hst2) hbase2 hfew2 hline2 hst2) hsw, ?_⟩
  obtain ⟨l, vs, hσ, hl', hH, r⟩ := own_lst en hΓ
  obtain ⟨lj, vj, hσj, hlj, hHj, rj⟩ := own_lst en hΓj
  refine ⟨_, hσj, .inl ⟨rfl, _, SqL.of hHj⟩, _, hσ, .inl ⟨rfl, _, SqL.of hH⟩, hi σ F H ω _ en (q.bind.imp fun n q v F1 H1 s1 rn => ?_)⟩
  have en1 := en.stp s1
  have r1 : Fa2 (T.rel X.K F1) vs xs := r.imp fun _ _ => T.mono s1.ff
  unfold popAtO at q
  cases hx : ixN xs.length n with
  | none => rw [hx] at q; exact q.elim
  | some c =>
    simp only [hx] at q
    cases hz : xs[c]? with
    | none => rw [hz] at q; exact q.elim
    | some z =>
      rw [hz] at q
      by_cases hb : -(2 ^ 63) ≤ n ∧ n < 2 ^ 63
      · simp only [if_pos hb] at q
        obtain ⟨w, hw, rw'⟩ := r1.get hz
        refine ⟨l, vs, n, c, w, rfl, by rw [show v = .int n from rn], s1.hh _ _ hH, hb.1, hb.2, by rw [r.len]; exact ixN_seq0 hx, hw, ?_⟩
        have e1 := env_lst en1 hΓ hσ hl' (r1.erase c)
        have hne : lj ≠ l := fun z => by
          rw [z, hl'] at hlj
          exact hij (Option.some.inj hlj)
        have hΓj2 : (Γ.set i (.on _ (oLst T) (xs.eraseIdx c)))[j]? = some (.on _ (oLst T) ys) := by rw [List.getElem?_set_ne hij]; exact hΓj
        have q : Post (appO ys z >>= fun l => f (z, xs.eraseIdx c) l) (fun b => EndOk X.K B F En (D b)) (RB X.K B E) := q
        unfold appO at q
        by_cases hc : ys.length < 16777216
        · rw [if_pos hc] at q
          refine ⟨lj, vj, w, rfl, rfl, by rw [upd_ne hne]; exact s1.hh _ _ hHj, by rw [rj.len, sizeLine_eq]; exact hc, ?_⟩
          have e2 := env_lst e1 hΓj2 hσj hlj (((rj.imp fun _ _ => T.mono s1.ff) : Fa2 (T.rel X.K F1) vj ys).app (.cons rw' .nil))
          exact hr (z, xs.eraseIdx c) (ys ++ [z]) _ F1 _ _ En e2 (Post.imp q fun b z => EndOk.up z s1.ff)
        · rw [if_neg hc] at q
          exact q.elim
      · simp only [if_neg hb] at q
        exact q.elim
end
end SL

set_option Elab.async false
set_option linter.all false
set_option maxRecDepth 100000
set_option maxHeartbeats 4000000
/-! SLy: dict comprehensions, list(d.values()), zip. -/
namespace SL
open PySem PySem.Spec PyProof.Rows L2
variable {X : Cx} {N : List Str} {sc : Scp} {k : Nat} {E : XK} {B : Bs} {Γ : List Slot}
/-! ### list(d.values()) of a fixed dict -/
def tListVals (te : TE) : TE := fun σ H Q => te σ H fun x H1 => ∃ d o kvs, x = .ref d ∧ H1 d = some (.frz o (.dK kvs)) ∧ ∀ p, H1 p = none → Q (.ref p) (upd H1 p (.lst (kvs.map (·.2))))
theorem pe_listVals {e : Expr} {te : TE} {p apos cpos pos : Pos} (hc : X.calm = true) (he : PE X e te) (hg : Gl X "list") (hm : X.mg "list" = none) (hbase : attributeBase e "values" X.env (eval e X.env) = eval e X.env := by rfl) (hline : (apos.endLine == cpos.line) = true := by rfl)
    (hs : starEach [.Call (.Attribute e "values" apos) [] [] cpos] X.env = (false, eval (.Call (.Attribute e "values" apos) [] [] cpos) X.env) :: starEach [] X.env := by rfl) :
    PE X (.Call (.Name "list" p) [.Call (.Attribute e "values" apos) [] [] cpos] [] pos) (tListVals te) := by
  refine ⟨fun pins s σ H Q I hq => ?_⟩
  refine wpAny_Call_Name_kw (ld_blt I hg hm boot_list ?_)
  refine PyProof.Rows.callWith_type1 ?_ hs rfl
  rw [hs]
  show wpAny _ _ (spliced ((false, eval (.Call (.Attribute e "values" apos) [] [] cpos) X.env) :: backTo pos (starEach [] X.env))) _ _ s
  refine Calls.spliced_cons ?_
  refine wpAny_Call_method (T := "dict") (id := "dict.values") hbase rfl hline F.plainAttrs_dict F.slot_dict_values F.type_dict_values (thn (he.run pins s σ H _ I hq) fun u s1 ⟨x, H1, I1, rx, d, o, kvs, ex, hd, q⟩ => ?_)
  subst ex
  obtain rfl : u = Value.ref d := rx
  obtain ⟨hs0, hgd, hx, es, ep, vs, hdt, hsz, kv, hm2⟩ := I1.frzK hd
  have hz : kvs.length ≤ sizeLine := (I1.hok d _ hd).2.1
  have hl : kvs.length = vs.length := Paired.length kv
  have I2 : Inv X pins σ H1 { s1 with heap := s1.heap.push { cls := .type "dict_values", data := .fields #[.ref d] } } := I1.kept (t' := s1.toks) fun b ob q => Heap.get?_push_of_some _ q
  refine ⟨hm2.dictOf.typeIs, hm2.dictOf.mapOf.noDict, ?_⟩
  show wpAny _ _ (callWith cpos (.builtin "dict.values") [.ref d] [] []) _ X.xe s1
  refine method_meetsIn F.slot_dict_values F.entry_dict_values rfl (PySem.evalArgs_none ⟨rfl, hm2.dictOf.typeIs, F.args_dict_values_1 _, _, meets_dict_values (mixKind X.prog X.w) d hs0, ⟨vs, hm2.dictOf⟩, ?_⟩)
  refine Calls.spliced_nil ?_
  refine PySem.W.kdl_call (PySem.W.kdl_values (knd := mixKind X.prog X.w) (d := d) (kvs := vs) (ep := ep)) (I1.ok.hd hc) ⟨⟨_, Heap.get?_push_size _ rfl, rfl, rfl⟩, hm2.push _⟩ (by rw [← hl]; exact hz) fun h' tk acc' c' hkeep hS hacc => ?_
  refine ⟨.ref _, upd H1 _ (.lst (kvs.map (·.2))), I2.laid hkeep (Nat.le_refl _) (show ObjOk X.prog X.w _ _ _ (.lst (kvs.map (·.2))) from ⟨?_, acc'.toList, c', ?_, ?_⟩), rfl, q _ (I2.hok.fresh (Nat.le_refl _))⟩
  · rw [List.length_map]; exact hz
  · have el : acc'.toList.length = acc'.size := by simp
    refine vals_of_at (by rw [List.length_map, el, hacc.1, hl]) fun j x w h1 h2 => ?_
    obtain ⟨k, hk⟩ := hacc.2 j w (by rw [← Array.getElem?_toList]; exact h2)
    obtain ⟨x', h3, h4⟩ := KV.at' kv hk
    rw [List.getElem?_map, h3] at h1
    cases h1
    exact h4
  · rw [Array.toArray_toList]; exact hS
theorem wo_listVals {α : Type} {T : Ty α} {e : Expr} {m : Out (List (Int × α))} {p apos cpos pos : Pos} (C : XC X N sc k E) (Z : Fre X.mg) (h : WE X E B Γ e (tDi kdI T).rl m) (hg : GlN sc "list" := by rfl) (hbase : attributeBase e "values" X.env (eval e X.env) = eval e X.env := by rfl) (hline : (apos.endLine == cpos.line) = true := by rfl)
    (hs : starEach [.Call (.Attribute e "values" apos) [] [] cpos] X.env = (false, eval (.Call (.Attribute e "values" apos) [] [] cpos) X.env) :: starEach [] X.env := by rfl) :
    WO X E B Γ (.Call (.Name "list" p) [.Call (.Attribute e "values" apos) [] [] cpos] [] pos) (oLst T) (m >>= fun a => pure (a.map Prod.snd)) := fun σ F H ω Q en q => by
  refine ⟨_, pe_listVals C.calm pe_s (gl_ C hg) Z.list hbase hline hs, ?_⟩
  refine h σ F H ω _ en (q.bind.imp fun a q v F1 H1 s1 r => ?_)
  obtain ⟨d, o, vs, e1, hp, r⟩ := r
  refine ⟨d, o, _, e1, s1.fh _ _ hp, fun p hp2 => ?_⟩
  have hv : vs.length = a.length := by simpa using r.len
  have e2 : ((((a.map Prod.fst).zip vs).map fun x => (ki x.1, x.2)).map (·.2)) = vs := by
    rw [List.map_map]
    exact List.map_snd_zip (by simp [hv])
  rw [e2]
  have s2 : Stp F H F1 (upd H1 p (.lst vs)) := s1.trans (Stp.newH s1.fh hp2)
  refine q (.ref p) F1 _ (fun a => a = p) s2 (fun a e => by
    subst e
    exact ⟨s1.fh.free hp2, (by rw [upd_same]; exact fun z => nomatch z), s1.hh.free hp2⟩) ⟨p, vs, rfl, rfl, upd_same, r⟩
/-! ### zip -/
section
variable {elts : List Expr} {kk : Nat} {tpos p pos : Pos} {e e2 : Expr} {α β : Type} {T : Ty α} {U : Ty β} {m : Out (List α)} {m2 : Out (List β)}
theorem wi_zipL (C : XC X N sc k E) (Z : Fre X.mg) (h : WE X E B Γ e (tLst T).rl m) (h2 : WE X E B Γ e2 (tLst U).rl m2) (hg : GlN sc "zip" := by rfl) (hs : starEach [e, e2] X.env = (false, eval e X.env) :: starEach [e2] X.env := by rfl) (hs2 : starEach [e2] X.env = (false, eval e2 X.env) :: starEach [] X.env := by rfl) (hpl : (backTo pos (starEach [e2] X.env)).any (·.1) = false := by rfl) :
    WI X E B Γ (.Tuple elts kk tpos) (.Call (.Name "zip" p) [e, e2] [] pos) (tT2 T U) (m >>= fun a => m2 >>= fun b => pure (a.zip b)) := fun σ F H ω R en q => by
  refine ⟨_, RZ.pi_zipA (gl_ C hg) Z.zip (pa_cons (pe_lenQ pe_s) (pa_cons pe_s pa_nil hs2) hs) hs hpl, ?_⟩
  refine h σ F H ω _ en (q.bind.imp fun xs q v F1 H1 s1 ⟨a, vs, e, sq, r⟩ hl => ?_)
  refine h2 σ F1 H1 ω _ (en.stp s1) (q.bind.imp fun ys q v2 F2 H2 s2 ⟨b, ws, e2, sq2, r2⟩ => ?_)
  have sqa : SqL X.K H2 a vs := SqL.of (s2.fh _ _ (s2.ff _ _ sq))
  have sqb : SqL X.K H2 b ws := SqL.of (s2.fh _ _ sq2)
  refine ⟨a, b, vs, ws, by rw [e, e2], .inl ⟨sqa, sqb, q _ F2 H2 (s1.trans s2) ?_ ?_⟩⟩
  · refine ⟨fun i F H hi sf sh => ?_, fun F H sf sh => ?_, fun i F H x H' hi sf sh y => ?_⟩
    · have hi1 : i < vs.length := by rw [r.len]; simp at hi; omega
      have hi2 : i < ws.length := by rw [r2.len]; simp at hi; omega
      exact ⟨vs, ws, vs[i], ws[i], SqL.of (sh _ _ (sf _ _ (s2.ff _ _ sq))), SqL.of (sh _ _ (sf _ _ sq2)), List.getElem?_eq_getElem hi1, List.getElem?_eq_getElem hi2⟩
    · refine ⟨vs, ws, SqL.of (sh _ _ (sf _ _ (s2.ff _ _ sq))), SqL.of (sh _ _ (sf _ _ sq2)), ?_⟩
      rw [r.len, r2.len, List.length_zip]
      omega
    · obtain ⟨D, x1, y1, rfl, hD, rfl, hx, hy⟩ := y
      obtain ⟨a1, ha1, ra1⟩ := r.getV (hx vs (SqL.of (sh _ _ (sf _ _ (s2.ff _ _ sq)))))
      obtain ⟨b1, hb1, rb1⟩ := r2.getV (hy ws (SqL.of (sh _ _ (sf _ _ sq2))))
      obtain ⟨s3, r3⟩ := new_pair (T := T) (U := U) sh hD (T.mono (s2.ff.trans sf) ra1) (U.mono sf rb1)
      exact ⟨_, _, s3, by rw [List.getElem?_zip_eq_some]; exact ⟨ha1, hb1⟩, r3⟩
  · have := hl a vs (.inl (.inl (s1.fh _ _ sq)))
    rw [List.length_zip, ← r.len]
    omega
theorem wi_zipT (C : XC X N sc k E) (Z : Fre X.mg) (h : WE X E B Γ e (tTup T).rl m) (h2 : WE X E B Γ e2 (tTup U).rl m2) (hg : GlN sc "zip" := by rfl) (hs : starEach [e, e2] X.env = (false, eval e X.env) :: starEach [e2] X.env := by rfl) (hs2 : starEach [e2] X.env = (false, eval e2 X.env) :: starEach [] X.env := by rfl) (hpl : (backTo pos (starEach [e2] X.env)).any (·.1) = false := by rfl) :
    WI X E B Γ (.Tuple elts kk tpos) (.Call (.Name "zip" p) [e, e2] [] pos) (tT2 T U) (m >>= fun a => m2 >>= fun b => pure (a.zip b)) := fun σ F H ω R en q => by
  refine ⟨_, RZ.pi_zipA (gl_ C hg) Z.zip (pa_cons (pe_lenQ pe_s) (pa_cons pe_s pa_nil hs2) hs) hs hpl, ?_⟩
  refine h σ F H ω _ en (q.bind.imp fun xs q v F1 H1 s1 ⟨a, vs, e, sq, r⟩ hl => ?_)
  refine h2 σ F1 H1 ω _ (en.stp s1) (q.bind.imp fun ys q v2 F2 H2 s2 ⟨b, ws, e2, sq2, r2⟩ => ?_)
  have sqa : SqT X.K H2 a vs := seqT s2.fh (seqT s2.ff sq)
  have sqb : SqT X.K H2 b ws := seqT s2.fh sq2
  refine ⟨a, b, vs, ws, by rw [e, e2], .inr ⟨sqa, sqb, q _ F2 H2 (s1.trans s2) ?_ ?_⟩⟩
  · refine ⟨fun i F H hi sf sh => ?_, fun F H sf sh => ?_, fun i F H x H' hi sf sh y => ?_⟩
    · have hi1 : i < vs.length := by rw [r.len]; simp at hi; omega
      have hi2 : i < ws.length := by rw [r2.len]; simp at hi; omega
      exact ⟨vs, ws, vs[i], ws[i], seqT sh (seqT sf (seqT s2.ff sq)), seqT sh (seqT sf sq2), List.getElem?_eq_getElem hi1, List.getElem?_eq_getElem hi2⟩
    · refine ⟨vs, ws, seqT sh (seqT sf (seqT s2.ff sq)), seqT sh (seqT sf sq2), ?_⟩
      rw [r.len, r2.len, List.length_zip]
      omega
    · obtain ⟨D, x1, y1, rfl, hD, rfl, hx, hy⟩ := y
      obtain ⟨a1, ha1, ra1⟩ := r.getV (hx vs (seqT sh (seqT sf (seqT s2.ff sq))))
      obtain ⟨b1, hb1, rb1⟩ := r2.getV (hy ws (seqT sh (seqT sf sq2)))
      obtain ⟨s3, r3⟩ := new_pair (T := T) (U := U) sh hD (T.mono (s2.ff.trans sf) ra1) (U.mono sf rb1)
      exact ⟨_, _, s3, by rw [List.getElem?_zip_eq_some]; exact ⟨ha1, hb1⟩, r3⟩
  · have := sqT_len (seqT s1.fh sq) hl
    rw [List.length_zip, ← r.len]
    omega
end
/-! ### {k: v for ..}, keys ints, values new own things -/
def dcO {α κ β : Type} [DecidableEq κ] (mk : α → Out κ) (mv : α → Out β) : List α → List (κ × β) → Out (List (κ × β))
  | [], acc => pure acc
  | x :: xs, acc => match mk x with
    | .ok j => (match mv x with
      | .ok v => if acc.length < 16777216 then dcO mk mv xs (aput acc j v) else .stuck
      | _ => .stuck)
    | _ => .stuck
section
variable {tg iter kx vx : Expr} {scope : Scope} {own : List (Str × Nat)} {pos p : Pos} {α β : Type} {T : Ty α} {O : Own β} {mi : Out (List α)} {ix : List Nat} {g : α → List Slot → List Slot} {mk : α → Out Int} {mv : α → Out β}
theorem dcO_err {x : Err} : ∀ (xs : List α) (acc : List (Int × β)), dcO mk mv xs acc ≠ .err x := by
  intro xs
  induction xs with
  | nil => intro acc z; cases z
  | cons y ys ih =>
    intro acc z
    unfold dcO at z
    split at z
    · split at z
      · split at z
        · exact ih _ z
        · cases z
      · cases z
    · cases z
theorem dc_read (C : XC X N sc k E) (hit : WI X E B Γ tg iter T mi) (hix : ∀ j ∈ ix, j ∈ own.map (·.2)) (hg : ∀ s H' Cc cl fp, WG (bx X scope s H' Cc cl fp) B tg T ix g)
    (hk : ∀ s H' Cc cl fp a, WE (bx X scope s H' Cc cl fp) E0 B (g a (wipeS Γ (own.map (·.2)))) kx tInt.rl (mk a)) (he : ∀ s H' Cc cl fp a, WO (bx X scope s H' Cc cl fp) E0 B (g a (wipeS Γ (own.map (·.2)))) vx O (mv a))
    {σ : L2.St} {F H : Hp} {ω : Ow} {Q : VK} (en : EnvOk X.K B Γ σ F H ω) (po : Post (mi >>= fun xs => dcO mk mv xs []) (fun bs => ∀ v F' H' S, Stp F H F' H' → (∀ p, S p → F' p = none ∧ H' p ≠ none ∧ H p = none) → (oDi kdI O).rel X.K F' H' S v bs → Q v H') (RB X.K B E)) :
    tDc (sI X tg iter) (uG X scope tg) (uT X scope []) (uE X scope kx) (uE X scope vx) (own.map (·.2)) σ H Q := by
  refine hit σ F H ω _ en (po.bind.imp fun xs q J F1 H1 s1 tw hl D hD => ?_)
  have hD0 : H D = none := s1.hh.free hD
  have hF1 : F1 D = none := s1.fh.free hD
  obtain ⟨bs, hb, q⟩ : ∃ bs, dcO mk mv xs [] = .ok bs ∧ ∀ v F' H' S, Stp F H F' H' → (∀ p, S p → F' p = none ∧ H' p ≠ none ∧ H p = none) → (oDi kdI O).rel X.K F' H' S v bs → Q v H' := by
    cases e : dcO mk mv xs [] with
    | ok bs => rw [e] at q; exact ⟨bs, rfl, q⟩
    | err x => exact absurd e (dcO_err xs [])
    | stuck => rw [e] at q; exact q.elim
  have enw := env_wipe (en.stp s1) (own.map (·.2))
  refine ⟨fun i mm H' => mm = xs.length - i ∧ i ≤ xs.length ∧ ∃ F' S acc, Stp F1 H1 F' H' ∧ (∀ p, S p → F' p = none ∧ H' p ≠ none ∧ H1 p = none) ∧ S D ∧ (oDi kdI O).rel X.K F' H' S (.ref D) acc ∧ dcO mk mv (xs.drop i) acc = .ok bs,
    ⟨xs.length, by simp, Nat.zero_le _, F1, (fun a => a = D), [], Stp.newH s1.fh hD, fun a e => (by
      subst e
      exact ⟨hF1, (by rw [upd_same]; exact fun z => nomatch z), hD⟩), rfl, ⟨by simp, D, [], [], rfl, rfl, upd_same, .nil, by simp, by simp⟩, by rw [List.drop_zero]; exact hb⟩, ?_⟩
  rintro i mm H' ⟨rfl, hi, F', S, acc, s', hS, hSD, ra, hr⟩
  by_cases hlt : i < xs.length
  · refine .inr ⟨tw.goes i F' H' hlt s'.ff s'.fh, _, fun H2 h => h, fun x H2 y => ?_⟩
    obtain ⟨F2, a, s2, ea, rx⟩ := tw.yields i F' H' x H2 hlt s'.ff s'.fh y
    have ed : xs.drop i = a :: xs.drop (i + 1) := by
      rw [List.getElem?_eq_getElem hlt] at ea
      rw [List.drop_eq_getElem_cons hlt, Option.some.inj ea]
    rw [ed] at hr
    have s3 := s'.trans s2
    intro sb Hb Cb clb fpb
    refine hg sb Hb Cb clb fpb _ F2 H2 ω _ x a _ (enw.stp s3) rx fun σ2 ω2 k2 l2 _ en2 => ?_
    refine ⟨(wipe_eq k2 l2 hix).trans (wipe_wipe _ _), ?_⟩
    intro sc2 Hc2 Cc2 clc2 fpc2
    -- what the item gives
    obtain ⟨j, b, e1, e2, hz, e3⟩ : ∃ j b, mk a = .ok j ∧ mv a = .ok b ∧ acc.length < 16777216 ∧ dcO mk mv (xs.drop (i + 1)) (aput acc j b) = .ok bs := by
      unfold dcO at hr
      cases e : mk a with
      | ok j =>
        rw [e] at hr
        cases e2 : mv a with
        | ok b =>
          simp only [e2] at hr
          by_cases c : acc.length < 16777216
          · rw [if_pos c] at hr
            exact ⟨j, b, rfl, rfl, c, hr⟩
          · rw [if_neg c] at hr; cases hr
        | err x => simp only [e2] at hr; cases hr
        | stuck => simp only [e2] at hr; cases hr
      | err x => rw [e] at hr; cases hr
      | stuck => rw [e] at hr; cases hr
    refine wts_nil (X := bx X scope sc2 Hc2 Cc2 clc2 fpc2) (E := E0) (B := B) σ2 F2 H2 ω2 _ en2 ?_
    intro F3 H3 s4
    show if true = true then _ else _
    rw [if_pos rfl]
    intro sk Hk Ck clk fpk
    refine hk sk Hk Ck clk fpk a σ2 F3 H3 ω2 _ (en2.stp s4) ?_
    rw [e1]
    intro v F4 H4 s5 rv
    intro se He Ce cle fpe
    refine he se He Ce cle fpe a σ2 F4 H4 ω2 _ ((en2.stp s4).stp s5) ?_
    rw [e2]
    intro z F5 H5 S5 s6 d5 r5
    have t45 := (s2.trans s4).trans s5
    have t5 := t45.trans s6
    have ra5 : (oDi kdI O).rel X.K F5 H5 S (.ref D) acc := (oDi kdI O).keep ra t5.ff fun p hp => same_at t5.hh (hS p hp).2.1
    obtain ⟨p, kvs, ep, sp, hp, hlen, hnd, _, _, put⟩ := di_put ra5
    cases ep
    have hv : v = .int j := rv
    have nl : ∀ q, S5 q → q ≠ D := fun q hq w => by
      have h1 : H4 q = none := (d5 q hq).2.2
      rw [w] at h1
      exact absurd h1 (same_ne t45.hh (hS D hSD).2.1)
    have dj : ∀ q, S5 q → ¬ S q := fun q hq w => absurd (d5 q hq).2.2 (same_ne t45.hh (hS q w).2.1)
    refine ⟨kvs.map (fun (x : Int × V) => (ki x.1, x.2)), ki j, by rw [hv]; rfl, hp, by rw [List.length_map, hlen, sizeLine_eq]; exact hz, ?_⟩
    rw [putK_emb (g := ki) (fun a b e => Sum.inl.inj e) _ _ _ hnd]
    have rn := put j F5 (upd H5 D (kdI.ho (aput kvs j z))) S5 z b (Same.refl F5) upd_same (fun q _ n => upd_ne n) dj (O.keep r5 (Same.refl F5) fun q hq => upd_ne (nl q hq))
    have hF5 : F5 D = none := t5.old D (hS D hSD).1 (hS D hSD).2.1
    refine ⟨xs.length - (i + 1), by omega, rfl, hlt, F5, fun q => S q ∨ S5 q, aput acc j b, (s'.trans t5).updN hD hF5, fun q hq => ?_, .inl hSD, rn, e3⟩
    rcases hq with w | w
    · refine ⟨t5.old q (hS q w).1 (hS q w).2.1, ?_, (hS q w).2.2⟩
      by_cases c : q = D
      · rw [c, upd_same]; exact fun z => nomatch z
      · rw [upd_ne c]; exact same_ne t5.hh (hS q w).2.1
    · refine ⟨(d5 q w).1, by rw [upd_ne (nl q w)]; exact (d5 q w).2.1, ?_⟩
      exact (s'.trans t45).hh.free (d5 q w).2.2
  · have e : i = xs.length := by omega
    subst e
    rw [List.drop_length] at hr
    have er : acc = bs := by cases hr; rfl
    subst er
    refine .inl ⟨tw.stops F' H' s'.ff s'.fh, ?_⟩
    exact q (.ref D) F' H' S (s1.trans s') (fun a w => ⟨(hS a w).1, (hS a w).2.1, s1.hh.free (hS a w).2.2⟩) ra
theorem wo_dcI (C : XC X N sc k E) (own : List (Str × Nat)) (hk0 : blkC N sc.sc scope own = true) (hit : WI X E B Γ tg iter T mi) (hix : ∀ j ∈ ix, j ∈ own.map (·.2)) (hg : ∀ s H' Cc cl fp, XC (bx X scope s H' Cc cl fp) N ⟨relS scope sc.sc, scope⟩ k E0 → WG (bx X scope s H' Cc cl fp) B tg T ix g)
    (hk : ∀ s H' Cc cl fp a, XC (bx X scope s H' Cc cl fp) N ⟨relS scope sc.sc, scope⟩ k E0 → WE (bx X scope s H' Cc cl fp) E0 B (g a (wipeS Γ (own.map (·.2)))) kx tInt.rl (mk a))
    (he : ∀ s H' Cc cl fp a, XC (bx X scope s H' Cc cl fp) N ⟨relS scope sc.sc, scope⟩ k E0 → WO (bx X scope s H' Cc cl fp) E0 B (g a (wipeS Γ (own.map (·.2)))) vx O (mv a))
    (hs : ∀ x, foldedSetIterable iter X.env x = pure x := by intro _; rfl) : WO X E B Γ (.DictComp kx vx [⟨tg, iter, [], 0⟩] scope pos) (oDi kdI O) (mi >>= fun xs => dcO mk mv xs []) := fun σ F H ω Q en po =>
  ⟨_, pe_dc C.calm (by rw [C.nm]; exact C.nd) pi_s (blk_ok C hk0) pg_u pts_u pe_u pe_u hs, dc_read C hit hix (fun s H' Cc cl fp => hg s H' Cc cl fp (xc_blk C s H' Cc cl fp)) (fun s H' Cc cl fp a => hk s H' Cc cl fp a (xc_blk C s H' Cc cl fp)) (fun s H' Cc cl fp a => he s H' Cc cl fp a (xc_blk C s H' Cc cl fp)) en po⟩
/-- name = {..} on one line, the name a local -/
theorem ps_setDc {i : Nat} {y : Str} {py spos : Pos} {ifs : List Expr} {wi : TI} {g : TG} {tt : TT} {tk tv : TE} (hc : X.calm = true) (hN : X.N.Nodup) (hy : X.N[i]? = some y) (hyl : X.env.scope.names.lookup y = some .local)
    (hsw : swapsWith (.DictComp kx vx [⟨tg, iter, ifs, 0⟩] scope pos) (some (.Name y py)) spos.line X.env = pure true) (hi : PI X tg iter wi) (ok : BlkOk X.N X.env.scope scope own)
    (hg : ∀ (s : Shared) (H : Hp) (C : Addr) (cl : List (Str × Addr)) (fp : List Addr), PG (X.blk s H scope (compEnvC scope cl C X.env) fp) tg g) (ht : ∀ (s : Shared) (H : Hp) (C : Addr) (cl : List (Str × Addr)) (fp : List Addr), PTs (X.blk s H scope (compEnvC scope cl C X.env) fp) ifs tt)
    (hk : ∀ (s : Shared) (H : Hp) (C : Addr) (cl : List (Str × Addr)) (fp : List Addr), PE (X.blk s H scope (compEnvC scope cl C X.env) fp) kx tk)
    (he : ∀ (s : Shared) (H : Hp) (C : Addr) (cl : List (Str × Addr)) (fp : List Addr), PE (X.blk s H scope (compEnvC scope cl C X.env) fp) vx tv) (hs : ∀ x, foldedSetIterable iter X.env x = pure x := by intro _; rfl) :
    PS X (.Assign [.Name y py] (.DictComp kx vx [⟨tg, iter, ifs, 0⟩] scope pos) spos) (tAsg (tDc wi g tt tk tv (own.map (·.2))) (gName i)) := by
  refine ⟨fun pins s σ H D I h => ?_⟩
  rw [exec_Assign_Name_used _ _ _ _ hsw]
  refine wpAny_bind (wpAny_standAt (wpAny_bind ?_))
  show wpAny _ X.A (do let _ ← comprehension (.DictComp kx vx [⟨tg, iter, ifs, 0⟩] scope pos) scope X.env (firstIterPos [⟨tg, iter, ifs, 0⟩] pos) newDict false (eval iter X.env) (some (assign (.Name y py) X.env))) _ _ s
  have h : tDc wi g tt tk tv (own.map (·.2)) σ H (fun x H1 => gName i x σ H1 D.nx) := h
  refine wpAny_bind (thn (dc_core (Qf := fun _ s' => SP X pins D .next s') hc hN I hi ok hg ht hk he hs h fun L C s' m H' I' q hn f => ?_) fun _ s' hq => wpAny_pure (wpAny_pure hq))
  show wpAny _ _ (assign (.Name y py) X.env (.ref L)) _ _ _
  refine wpAny_assign_Name (store_ok2 (v := V.ref L) I' hN hy (.inl hyl) rfl (fun s2 I2 ⟨a, sb, ha⟩ => ?_) (.inr hyl))
  obtain ⟨f0, f1, f2, f3, f4, f5⟩ := f
  have haC : C ≠ a := by
    rcases ha with z | z
    · rw [z]; exact f1
    · exact fun e => f4 y a z e.symm
  refine ⟨m, hn.sameBut sb haC, fun h3 sb3 => ?_⟩
  exact ⟨_, H', I2.turned (t' := s2.toks) (fun b o hb e => (sb3.2 b hb).trans e) f0 f1 f3 f4 f5, q⟩
theorem sw_trueD {gs : List Comprehension} {py : Pos} {y : Str} {l : Nat} {env : Env} (hk : env.scope.kind = .function) (hy : env.scope.names.lookup y = some .local) (hl : (py.line == pos.line) = true)
    (ha : (scope.names.any fun (n, k) => n == y && (k == .local || k == .cell)) = false) : swapsWith (.DictComp kx vx gs scope pos) (some (.Name y py)) l env = pure true := by
  have ky : env.kindOf y = some .local := hy
  have hb : env.blockKind = .function := by unfold Env.blockKind; rw [hk]; rfl
  unfold swapsWith
  simp only [hb, ky, ha, Expr.pos, hl]
  rfl
theorem ws_dcI {b : List Stmt} {bs : List (List Stmt)} {γ : Type} {D : γ → SOut} {f : List (Int × β) → Out γ} {y : Str} {py spos : Pos} (C : XC X N sc k E) (i : Nat) (own : List (Str × Nat)) (hk0 : blkC N sc.sc scope own = true) (hit : WI X E B Γ tg iter T mi) (hix : ∀ j ∈ ix, j ∈ own.map (·.2)) (hg : ∀ s H' Cc cl fp, XC (bx X scope s H' Cc cl fp) N ⟨relS scope sc.sc, scope⟩ k E0 → WG (bx X scope s H' Cc cl fp) B tg T ix g)
    (hk : ∀ s H' Cc cl fp a, XC (bx X scope s H' Cc cl fp) N ⟨relS scope sc.sc, scope⟩ k E0 → WE (bx X scope s H' Cc cl fp) E0 B (g a (wipeS Γ (own.map (·.2)))) kx tInt.rl (mk a))
    (he : ∀ s H' Cc cl fp a, XC (bx X scope s H' Cc cl fp) N ⟨relS scope sc.sc, scope⟩ k E0 → WO (bx X scope s H' Cc cl fp) E0 B (g a (wipeS Γ (own.map (·.2)))) vx O (mv a))
    (hr : ∀ a, WS X E B (Γ.set i (.on _ (oDi kdI O) a)) (b :: bs) (f a) D) (hN : N[i]? = some y := by rfl) (hyl : sc.sc.names.lookup y = some .local := by rfl) (hkd : sc.sc.kind = .function := by rfl) (hln : (py.line == pos.line) = true := by rfl)
    (hna : (scope.names.any fun (n, k) => n == y && (k == .local || k == .cell)) = false := by decide +kernel) (hs : ∀ x, foldedSetIterable iter X.env x = pure x := by intro _; rfl) :
    WS X E B Γ ((.Assign [.Name y py] (.DictComp kx vx [⟨tg, iter, [], 0⟩] scope pos) spos :: b) :: bs) ((mi >>= fun xs => dcO mk mv xs []) >>= f) D := fun σ F H ω En en q => by
  have hyl' : X.env.scope.names.lookup y = some .local := by rw [C.scp]; exact hyl
  refine sK_cons ⟨_, ps_setDc (i := i) C.calm (by rw [C.nm]; exact C.nd) (by rw [C.nm]; exact hN) hyl' (sw_trueD (by rw [C.scp]; exact hkd) hyl' hln hna) pi_s (blk_ok C hk0) pg_u pts_u pe_u pe_u hs, ?_⟩
  refine dc_read C hit hix (fun s H' Cc cl fp => hg s H' Cc cl fp (xc_blk C s H' Cc cl fp)) (fun s H' Cc cl fp a => hk s H' Cc cl fp a (xc_blk C s H' Cc cl fp)) (fun s H' Cc cl fp a => he s H' Cc cl fp a (xc_blk C s H' Cc cl fp)) en (q.bind.imp fun a q v F1 H1 S s1 d r => ?_)
  obtain ⟨ω', en'⟩ := env_setO (i := i) (en.stp s1) (new_ok en s1 d) r
  exact hr a _ F1 H1 _ En en' (q.imp fun b z => EndOk.up z s1.ff)
end
/-! ### P[i] op= e, a list of ints -/
theorem get_listG : PGet X (rIxL X.K) := by
  intro pins s σ H x y v u Q I rx ry h
  obtain ⟨p, xs, i, z, rfl, rfl, hq, he, q⟩ := h
  cases rx
  obtain ⟨t, rfl⟩ := ry
  obtain ⟨its, r, pl, hz⟩ := I.list hq
  obtain ⟨j, h1, h2, h3, h4, h5⟩ := atI_get he
  obtain ⟨w, ew, rw'⟩ := r.get h2
  have hl := r.length
  have hn := line63
  have fin : EP X pins σ Q w s := ⟨z, H, I, rw', q⟩
  by_cases h0 : 0 ≤ i
  · have hj : i.toNat = j := by
      rw [seqIndex_of h0 h5] at h1
      exact Option.some.inj h1
    exact wpAny_getItem_list pl.isList h0 (by omega) (by rw [hj]; simpa using ew) fin
  · have hj : (i + (its.toArray.size : Int)).toNat = j := by
      rw [seqIndex_neg (by omega) h4] at h1
      rw [List.size_toArray, ← hl]
      exact Option.some.inj h1
    exact wpAny_getItem_list_neg pl.isList (by omega) (by rw [List.size_toArray] <;> omega) (by omega) (by rw [hj]; simpa using ew) fin
section
variable {γ : Type} {D : γ → SOut} {b : List Stmt} {bs : List (List Stmt)} {tpos pos : Pos} {e eP ei : Expr} {α : Type} {O : Own α} {me mi : Out Int} {mP : Out (List Int × (List Int → α))} {f : List Int × (List Int → α) → List Int → Out γ}
theorem ws_augS (i : Nat) {op : Operator} {g : Int → Int → Int} (ho : PIp X op (ipI g)) (hP : WL X E B Γ i eP O (oLst tInt) mP) (hi : WE X E B Γ ei tInt.rl mi) (h : WE X E B Γ e tInt.rl me) (hr : ∀ r l, WS X E B (Γ.set i (.on α O (r.2 l))) (b :: bs) (f r l) D)
    (ha : ∀ ov iv new, augStore ei ov iv new = (do holding [new, ov, iv] (setItem ov iv new); release [new, ov, iv] []; pure .next) := by intros; rfl) :
    WS X E B Γ ((.AugAssign (.Subscript eP ei tpos) op e pos :: b) :: bs) (mP >>= fun r => mi >>= fun j => idx r.1 j >>= fun x => me >>= fun y => setO r.1 j (g x y) >>= fun l => f r l) D := fun σ F H ω En en q => by
  refine sK_cons ⟨_, ps_augS pe_s pe_s get_listG pe_s ho set_list ha, ?_⟩
  refine hP σ F H ω _ en (q.bind.imp fun r q v0 w F1 H1 s1 hv sb => ?_)
  have en1 := en.stp s1
  refine hi σ F1 H1 ω _ en1 (q.bind.imp fun j q v2 F2 H2 s2 rj => ?_)
  have en2 := en1.stp s2
  obtain ⟨l, vs, e1, hl, rr, _⟩ := env_subL en2 hv (sub_stp en s2 s1 sb)
  subst e1
  unfold idx at q
  cases hx : atI r.1 j with
  | none => rw [hx] at q; exact q.elim
  | some x =>
    rw [hx] at q
    obtain ⟨vx, hvx, rx⟩ := fa2_at rr hx
    refine ⟨l, vs, j, vx, rfl, rj, SqL.of hl, hvx, ?_⟩
    have q : Post (me >>= fun y => setO r.1 j (g x y) >>= fun l => f r l) (fun b => EndOk X.K B F En (D b)) (RB X.K B E) := q
    refine h σ F2 H2 ω _ en2 (q.bind.imp fun y q v3 F3 H3 s3 ry => ?_)
    refine ⟨x, y, rx, ry, ?_⟩
    have en3 := en2.stp s3
    obtain ⟨l', vs', e1', hl', rr', up⟩ := env_subL en3 hv (sub_stp en (s2.trans s3) s1 sb)
    cases e1'
    unfold setO ixO at q
    cases hj : ixN r.1.length j with
    | none => rw [hj] at q; exact q.elim
    | some n =>
      rw [hj] at q
      refine ⟨l, vs', j, n, rfl, rj, hl', by rw [rr'.len]; exact hj, ?_⟩
      obtain ⟨ω', en'⟩ := up (vs'.set n (.int (g x y))) _ (rr'.set (v := .int (g x y)) (a := g x y) rfl n)
      exact hr r _ σ F3 _ ω' En en' (Post.imp q fun b z => EndOk.up z ((s1.ff.trans s2.ff).trans s3.ff))
end
/-! ### is, of bools -/
section
variable {e1 e2 : Expr} {m1 m2 : Out Bool} {pos : Pos}
theorem v_isB {K : PySem.W.Frag} : VOp K rIsB tBool.rl tBool.rl tBool.rl (fun a b => pure (decide (a = b))) := fun F H x y a b Q J s h1 h2 p => ⟨a, b, h1, h2, p _ F H (Stp.refl s) rfl⟩
theorem we_isB (h1 : WE X E B Γ e1 tBool.rl m1) (h2 : WE X E B Γ e2 tBool.rl m2) : WE X E B Γ (.Compare e1 [.Is] [e2] pos) tBool.rl (m1 >>= fun a => m2 >>= fun b => pure (decide (a = b))) := we_cmp op_isBl v_isB (nomark _) h1 h2
theorem wt_isB (h1 : WE X E B Γ e1 tBool.rl m1) (h2 : WE X E B Γ e2 tBool.rl m2) : WT X E B Γ (.Compare e1 [.Is] [e2] pos) (m1 >>= fun a => m2 >>= fun b => pure (decide (a = b))) := wt_cmp op_isBl v_isB (nomark _) h1 h2
end
end SL

set_option Elab.async false
set_option linter.all false
set_option maxRecDepth 100000
set_option maxHeartbeats 4000000
namespace My
open PySem PySem.Spec PyProof.Rows L2 SL
def top (i : Nat) : Stmt := PySem.Challenge.pw_sloweralone_k18_even_hues_judge.main.body.getD i (.Pass ⟨0, 0, 0, 0⟩)
abbrev s_frozen : Stmt := top 4
abbrev s_empty_rows : Stmt := top 7
abbrev s_set_edge : Stmt := top 8
abbrev s_chain_of : Stmt := top 9
abbrev s_turn_chain : Stmt := top 10
abbrev s_proper_hues : Stmt := top 11
abbrev s_grouped : Stmt := top 12
abbrev s_even_hues : Stmt := top 13
abbrev s_hues_even : Stmt := top 14
abbrev s_law_whole : Stmt := top 16
abbrev s_law_cell : Stmt := top 17
abbrev s_law_digits : Stmt := top 18
abbrev s_law_number : Stmt := top 19
abbrev s_law_built : Stmt := top 20
abbrev s_law_mixed : Stmt := top 21
abbrev s_law_even_side : Stmt := top 22
abbrev s_law_even : Stmt := top 23
abbrev s_law_asked : Stmt := top 24
abbrev s_law_partner : Stmt := top 25
abbrev s_law_changed : Stmt := top 26
abbrev s_law_returned : Stmt := top 27
abbrev s_law : Stmt := top 28
abbrev FUEL : Nat := 1000000000
noncomputable section
variable {Pr : Program} {w : World} {K : PySem.W.Frag} {mg : Str → Option Value} {base : Heap}
def b_law_whole (value : Int) : Out Bool :=
if true = true then pure (!false) else pure false
theorem x_law_whole : ∃ g : Int → Out Bool, g = b_law_whole := ⟨_, rfl⟩
def m_law_whole : Int → Out Bool := Classical.choose x_law_whole
theorem m_law_whole_eq : m_law_whole = b_law_whole := Classical.choose_spec x_law_whole
abbrev P_law_whole : Par (Int × Unit) := (pC tInt pN)
abbrev u_law_whole (i : Int × Unit) : Out Bool := m_law_whole i.1
theorem sc_law_whole : FnScope ["value"] ["value"] (defScope s_law_whole) := ⟨rfl, rfl, rfl, by decide +kernel, rfl, by decide +kernel, by decide +kernel⟩
abbrev sp_law_whole (K : PySem.W.Frag) : Sp := Sps P_law_whole u_law_whole tBool K
theorem ok_law_whole {fd : FuncData} (Z : Fre mg) (F : FunD K "_law_whole" "_law_whole" (defArgs s_law_whole) (defBody s_law_whole) (defScope s_law_whole) [] [] (He.fAd K ("_law_whole", none)) fd) (g : mg "_law_whole" = some (.ref (He.fAd K ("_law_whole", none))))   : Def Pr w K mg base 1 "_law_whole" ["value"] [] (sp_law_whole K) := by
  refine ⟨_, fd, [], fn_body F sc_law_whole rfl (by decide) (fun X E B i e1 e2 e3 e4 e5 hW C => ?_), g, F.kp, F.bindsN (fun _ _ _ _ _ _ us hl => match us, hl with | [_], _ => rfl), .nil⟩
  subst e1 e2 e3 e4 e5
  obtain ⟨value, _⟩ := i
  show WS X E B [iS tInt value] [_] (m_law_whole value) _
  rw [m_law_whole_eq]
  unfold b_law_whole
  exact ws_ret0 (WE.cast (m' := if true = true then pure (!false) else pure false) (we_and (we_isi C Z (cn := "int") (fun _ => true) ty_int (fun _ => by decide +kernel) (we_var C 0) Z.int (by decide +kernel)) (we_bo1 (we_not (we_isi C Z (cn := "bool") (fun _ => false) ty_int (fun _ => by decide +kernel) (we_var C 0) Z.bool (by decide +kernel))))) (by first | rfl | simp only [bind_as, pure_b])) (fun _ => rfl)
def b_law_cell (script : List Int) (k : Int) : Out Int :=
(pure (decide (k < (script.length : Int)))) >>= fun c1 => if c1 = true then (
idx script k)
else (
(pure 17) >>= fun seed =>
((pure script) >>= fun xs4 => forO (fun (s2 : Int) (x3 : Int) =>
(pure (((s2 * 31) + (x3 % 1000003)) % 1000003)) >>= fun seed =>
pure seed) xs4 seed) >>= fun s5 =>
(((mulO (s5 + 7) (k + 3)) >>= fun t6 => pure (t6 * 69621)) >>= fun t7 => pure t7) >>= fun t8 => pure (t8 % 2147483647))
theorem x_law_cell : ∃ g : (List Int) → Int → Out Int, g = b_law_cell := ⟨_, rfl⟩
def m_law_cell : (List Int) → Int → Out Int := Classical.choose x_law_cell
theorem m_law_cell_eq : m_law_cell = b_law_cell := Classical.choose_spec x_law_cell
abbrev P_law_cell : Par ((List Int) × Int × Unit) := (pC (tLstQ tInt) (pC tInt pN))
abbrev u_law_cell (i : (List Int) × Int × Unit) : Out Int := m_law_cell i.1 i.2.1
theorem sc_law_cell : FnScope ["script", "k", "seed", "cell"] ["script", "k"] (defScope s_law_cell) := ⟨rfl, rfl, rfl, by decide +kernel, rfl, by decide +kernel, by decide +kernel⟩
abbrev sp_law_cell (K : PySem.W.Frag) : Sp := Sps P_law_cell u_law_cell tInt K
theorem ok_law_cell {fd : FuncData} (Z : Fre mg) (F : FunD K "_law_cell" "_law_cell" (defArgs s_law_cell) (defBody s_law_cell) (defScope s_law_cell) [] [] (He.fAd K ("_law_cell", none)) fd) (g : mg "_law_cell" = some (.ref (He.fAd K ("_law_cell", none))))   : Def Pr w K mg base 1 "_law_cell" ["script", "k"] [] (sp_law_cell K) := by
  refine ⟨_, fd, [], fn_body F sc_law_cell rfl (by decide) (fun X E B i e1 e2 e3 e4 e5 hW C => ?_), g, F.kp, F.bindsN (fun _ _ _ _ _ _ us hl => match us, hl with | [_, _], _ => rfl), .nil⟩
  subst e1 e2 e3 e4 e5
  obtain ⟨script, k, _⟩ := i
  show WS X E B [iS (tLstQ tInt) script, iS tInt k, .any, .any] [_] (m_law_cell script k) _
  rw [m_law_cell_eq]
  unfold b_law_cell
  exact ws_if (WT.cast (m' := pure (decide (k < (script.length : Int)))) (wt_lt (we_var C 1) (we_lenL C Z (WE.rq (we_var C 0)))) (by first | rfl | simp only [bind_as, pure_b])) (
ws_ret0 (WE.cast (m' := idx script k) (we_ixL (WE.rq (we_var C 0)) (we_var C 1)) (by first | rfl | simp only [bind_as, pure_b])) (fun _ => rfl)) (
ws_pop (ws_set C 2 (WE.cast (m' := pure 17) we_int (by first | rfl | simp only [bind_as, pure_b])) (fun seed =>
ws_seq (Δ := (fun (s2 : Int) => [iS (tLstQ tInt) script, iS tInt k, iS tInt s2, .any])) (w1_for C (WI.cast (m' := pure script) (wi_lstQ (we_var C 0)) (by first | rfl | simp only [bind_as, pure_b])) (wg_name C 3) (Δ := (fun (s2 : Int) => [iS (tLstQ tInt) script, iS tInt k, iS tInt s2, .any])) (s0 := seed) (Weak.same (Weak.same (Weak.same (Weak.same Weak.nil)))) (by exact (fun s2 x3 =>
ws_set C 2 (WE.cast (m' := pure (((s2 * 31) + (x3 % 1000003)) % 1000003)) (we_modR (we_intI C Z (we_add (we_mulR (we_var C 2) we_int) (we_modR (we_intI C Z (we_var C 3)) we_int))) we_int) (by first | rfl | simp only [bind_as, pure_b])) (fun seed =>
ws_fin rfl (Weak.same (Weak.same (Weak.same (Weak.any Weak.nil)))))))) (fun s5 =>
ws_ret0 (WE.cast (m' := (((mulO (s5 + 7) (k + 3)) >>= fun t6 => pure (t6 * 69621)) >>= fun t7 => pure t7) >>= fun t8 => pure (t8 % 2147483647)) (we_modR (we_intI C Z (we_mulR (we_mul (we_add (we_var C 2) we_int) (we_add (we_var C 1) we_int)) we_int)) we_int) (by first | rfl | simp only [bind_as, pure_b])) (fun _ => rfl)))))
def b_law_digits (cell : Int) (sizes : List Int) : Out (List Int) :=
(pure ([] : List Int)) >>= fun row =>
(pure 0) >>= fun rest =>
((pure (decide (1000000000000000000 ≤ cell))) >>= fun c1 => if c1 = true then (
(pure ((cell - 1000000000000000000) % 10000000000000000000000000000000000000000000000000000000000000000000000000000000000000000000000000000000000000000000000000000000000000000000000000000000000000000000000000000000000000000000000000000000000000000000000000000000000000000000000000000000000000000)) >>= fun rest =>
pure rest)
else (
pure rest)) >>= fun s2 =>
(pure (cell % 2147483629)) >>= fun seed =>
((pure (upto sizes.length)) >>= fun xs13 => forO (fun (s3 : Int × Int × (List Int)) (x4 : Int) =>
(pure ((((s3.1 * 48271) + (974711 * x4)) + 12345) % 2147483647)) >>= fun seed =>
(((mulO seed ((seed / 65537) + 3)) >>= fun t5 => pure t5) >>= fun t6 => pure (t6 % 2147483629)) >>= fun twice =>
(pure (decide (0 < s3.2.1))) >>= fun c7 => if c7 = true then (
((idx sizes x4) >>= fun t8 => modO s3.2.1 t8) >>= fun a9 => appO s3.2.2 a9 >>= fun row =>
((idx sizes x4) >>= fun t10 => divO s3.2.1 t10) >>= fun rest =>
pure (seed, rest, row))
else (
((idx sizes x4) >>= fun t11 => modO (twice / 19) t11) >>= fun a12 => appO s3.2.2 a12 >>= fun row =>
pure (seed, s3.2.1, row))) xs13 (seed, s2, row)) >>= fun s14 =>
pure s14.2.2
theorem x_law_digits : ∃ g : Int → (List Int) → Out (List Int), g = b_law_digits := ⟨_, rfl⟩
def m_law_digits : Int → (List Int) → Out (List Int) := Classical.choose x_law_digits
theorem m_law_digits_eq : m_law_digits = b_law_digits := Classical.choose_spec x_law_digits
abbrev P_law_digits : Par (Int × (List Int) × Unit) := (pC tInt (pC (tLst tInt) pN))
abbrev u_law_digits (i : Int × (List Int) × Unit) : Out (List Int) := m_law_digits i.1 i.2.1
theorem sc_law_digits : FnScope ["cell", "sizes", "row", "rest", "seed", "k", "twice"] ["cell", "sizes"] (defScope s_law_digits) := ⟨rfl, rfl, rfl, by decide +kernel, rfl, by decide +kernel, by decide +kernel⟩
abbrev sp_law_digits (K : PySem.W.Frag) : Sp := SpsO P_law_digits u_law_digits (oLst tInt) K
theorem ok_law_digits {fd : FuncData} (Z : Fre mg) (F : FunD K "_law_digits" "_law_digits" (defArgs s_law_digits) (defBody s_law_digits) (defScope s_law_digits) [] [] (He.fAd K ("_law_digits", none)) fd) (g : mg "_law_digits" = some (.ref (He.fAd K ("_law_digits", none))))   : Def Pr w K mg base 1 "_law_digits" ["cell", "sizes"] [] (sp_law_digits K) := by
  refine ⟨_, fd, [], fn_bodyO F sc_law_digits rfl (by decide) (fun X E B i e1 e2 e3 e4 e5 hW C => ?_), g, F.kp, F.bindsN (fun _ _ _ _ _ _ us hl => match us, hl with | [_, _], _ => rfl), .nil⟩
  subst e1 e2 e3 e4 e5
  obtain ⟨cell, sizes, _⟩ := i
  show WS X E B [iS tInt cell, iS (tLst tInt) sizes, .any, .any, .any, .any, .any] [_] (m_law_digits cell sizes) _
  rw [m_law_digits_eq]
  unfold b_law_digits
  exact ws_setO C 2 (WO.cast (m' := pure ([] : List Int)) (wo_lst (wal_nil (T := tInt))) (by first | rfl | simp only [bind_as, pure_b])) (fun row =>
ws_set C 3 (WE.cast (m' := pure 0) we_int (by first | rfl | simp only [bind_as, pure_b])) (fun rest =>
ws_seq (Δ := (fun (s2 : Int) => [iS tInt cell, iS (tLst tInt) sizes, .on _ (oLst tInt) row, iS tInt s2, .any, .any, .any])) (w1_if (WT.cast (m' := pure (decide (1000000000000000000 ≤ cell))) (wt_ge (we_var C 0) (we_powL 1000000000000000000 we_int we_int)) (by first | rfl | simp only [bind_as, pure_b])) (
ws_set C 3 (WE.cast (m' := pure ((cell - 1000000000000000000) % 10000000000000000000000000000000000000000000000000000000000000000000000000000000000000000000000000000000000000000000000000000000000000000000000000000000000000000000000000000000000000000000000000000000000000000000000000000000000000000000000000000000000000000)) (we_modR (we_intI C Z (we_sub (we_var C 0) (we_powL 1000000000000000000 we_int we_int))) (we_mulW 10000000000000000000000000000000000000000000000000000000000000000000000000000000000000000000000000000000000000000000000000000000000000000000000000000000000000000000000000000000000000000000000000000000000000000000000000000000000000000000000000000000000000000 (we_mulW 1000000000000000000000000000000000000000000000000000000000000000000000000000000000000000000000000000000000000000000000000000000000000000000000000000000000000000000000000000000000000000000000000 (we_mulW 100000000000000000000000000000000000000000000000000000000000000000000000000000000000000000000000000000000000000000000000000000000 (we_powL 10000000000000000000000000000000000000000000000000000000000000000 we_int we_int) (we_powL 10000000000000000000000000000000000000000000000000000000000000000 we_int we_int)) (we_powL 10000000000000000000000000000000000000000000000000000000000000000 we_int we_int)) (we_powL 10000000000000000000000000000000000000000000000000000000000000000 we_int we_int)) (by decide +kernel)) (by first | rfl | simp only [bind_as, pure_b])) (fun rest =>
ws_fin rfl (Weak.same (Weak.same (Weak.same (Weak.same (Weak.same (Weak.same (Weak.same Weak.nil))))))))) (
ws_fin rfl (Weak.same (Weak.same (Weak.same (Weak.same (Weak.same (Weak.same (Weak.same Weak.nil))))))))) (fun s2 =>
ws_set C 4 (WE.cast (m' := pure (cell % 2147483629)) (we_modR (we_intI C Z (we_var C 0)) we_int) (by first | rfl | simp only [bind_as, pure_b])) (fun seed =>
ws_seq (Δ := (fun (s3 : Int × Int × (List Int)) => [iS tInt cell, iS (tLst tInt) sizes, .on _ (oLst tInt) s3.2.2, iS tInt s3.2.1, iS tInt s3.1, .any, .any])) (w1_for C (WI.cast (m' := pure (upto sizes.length)) (wi_rlen C Z rl_len (WE.rd (we_var C 1))) (by first | rfl | simp only [bind_as, pure_b])) (wg_name C 5) (Δ := (fun (s3 : Int × Int × (List Int)) => [iS tInt cell, iS (tLst tInt) sizes, .on _ (oLst tInt) s3.2.2, iS tInt s3.2.1, iS tInt s3.1, .any, .any])) (s0 := (seed, s2, row)) (Weak.same (Weak.same (Weak.same (Weak.same (Weak.same (Weak.same (Weak.same Weak.nil))))))) (by exact (fun s3 x4 =>
ws_set C 4 (WE.cast (m' := pure ((((s3.1 * 48271) + (974711 * x4)) + 12345) % 2147483647)) (we_modR (we_intI C Z (we_add (we_add (we_mulR (we_var C 4) we_int) (we_mulL we_int (we_var C 5))) we_int)) we_int) (by first | rfl | simp only [bind_as, pure_b])) (fun seed =>
ws_set C 6 (WE.cast (m' := ((mulO seed ((seed / 65537) + 3)) >>= fun t5 => pure t5) >>= fun t6 => pure (t6 % 2147483629)) (we_modR (we_intI C Z (we_mul (we_var C 4) (we_add (we_divR (we_var C 4) we_int) we_int))) we_int) (by first | rfl | simp only [bind_as, pure_b])) (fun twice =>
ws_if (WT.cast (m' := pure (decide (0 < s3.2.1))) (wt_gt (we_var C 3) we_int) (by first | rfl | simp only [bind_as, pure_b])) (
ws_app C 2 (WE.cast (m' := (idx sizes x4) >>= fun t8 => modO s3.2.1 t8) (we_mod (we_intI C Z (we_var C 3)) (we_ixL (WE.rd (we_var C 1)) (we_var C 5))) (by first | rfl | simp only [bind_as, pure_b])) (fun row =>
ws_set C 3 (WE.cast (m' := (idx sizes x4) >>= fun t10 => divO s3.2.1 t10) (we_div (we_var C 3) (we_ixL (WE.rd (we_var C 1)) (we_var C 5))) (by first | rfl | simp only [bind_as, pure_b])) (fun rest =>
ws_pop (ws_fin rfl (Weak.same (Weak.same (Weak.same (Weak.same (Weak.same (Weak.any (Weak.any Weak.nil))))))))))) (
ws_app C 2 (WE.cast (m' := (idx sizes x4) >>= fun t11 => modO (twice / 19) t11) (we_mod (we_intI C Z (we_divR (we_var C 6) we_int)) (we_ixL (WE.rd (we_var C 1)) (we_var C 5))) (by first | rfl | simp only [bind_as, pure_b])) (fun row =>
ws_pop (ws_fin rfl (Weak.same (Weak.same (Weak.same (Weak.same (Weak.same (Weak.any (Weak.any Weak.nil))))))))))))))) (fun s14 =>
ws_retV C 2 hW rfl)))))
def b_law_number (base : Int) (step : Int) (index : Int) : Out Int :=
((((idx [1, 7, 999, 333, 77, 501] step) >>= fun t1 => mulO index t1) >>= fun t2 => pure (base + t2)) >>= fun t3 => pure t3) >>= fun t4 => pure (t4 % 1000)
theorem x_law_number : ∃ g : Int → Int → Int → Out Int, g = b_law_number := ⟨_, rfl⟩
def m_law_number : Int → Int → Int → Out Int := Classical.choose x_law_number
theorem m_law_number_eq : m_law_number = b_law_number := Classical.choose_spec x_law_number
abbrev P_law_number : Par (Int × Int × Int × Unit) := (pC tInt (pC tInt (pC tInt pN)))
abbrev u_law_number (i : Int × Int × Int × Unit) : Out Int := m_law_number i.1 i.2.1 i.2.2.1
theorem sc_law_number : FnScope ["base", "step", "index"] ["base", "step", "index"] (defScope s_law_number) := ⟨rfl, rfl, rfl, by decide +kernel, rfl, by decide +kernel, by decide +kernel⟩
abbrev sp_law_number (K : PySem.W.Frag) : Sp := Sps P_law_number u_law_number tInt K
theorem ok_law_number {fd : FuncData} (Z : Fre mg) (F : FunD K "_law_number" "_law_number" (defArgs s_law_number) (defBody s_law_number) (defScope s_law_number) [] [] (He.fAd K ("_law_number", none)) fd) (g : mg "_law_number" = some (.ref (He.fAd K ("_law_number", none))))   : Def Pr w K mg base 1 "_law_number" ["base", "step", "index"] [] (sp_law_number K) := by
  refine ⟨_, fd, [], fn_body F sc_law_number rfl (by decide) (fun X E B i e1 e2 e3 e4 e5 hW C => ?_), g, F.kp, F.bindsN (fun _ _ _ _ _ _ us hl => match us, hl with | [_, _, _], _ => rfl), .nil⟩
  subst e1 e2 e3 e4 e5
  obtain ⟨base, step, index, _⟩ := i
  show WS X E B [iS tInt base, iS tInt step, iS tInt index] [_] (m_law_number base step index) _
  rw [m_law_number_eq]
  unfold b_law_number
  exact ws_ret0 (WE.cast (m' := ((((idx [1, 7, 999, 333, 77, 501] step) >>= fun t1 => mulO index t1) >>= fun t2 => pure (base + t2)) >>= fun t3 => pure t3) >>= fun t4 => pure (t4 % 1000)) (we_modR (we_intI C Z (we_add (we_var C 0) (we_mul (we_var C 2) (we_ixL (WO.rd (wo_lst (wal_cons we_int (wal_cons we_int (wal_cons we_int (wal_cons we_int (wal_cons we_int (wal_cons we_int wal_nil)))))))) (we_var C 1))))) we_int) (by first | rfl | simp only [bind_as, pure_b])) (fun _ => rfl)
def b_law_built (script : List Int) (row : List Int) (count : Int) : Out ((List (Int × Int)) × (List Int)) :=
(pure ([] : List (Int × Int))) >>= fun edges =>
(pure ([] : List Int)) >>= fun hues =>
(pure 0) >>= fun lefts =>
(pure 0) >>= fun rights =>
(((((idx row 1) >>= fun t3 => (((idx row 2) >>= fun t1 => pure (decide (0 < t1))) >>= fun t2 => pure (if t2 = true then 1 else 0)) >>= fun t4 => mulO t3 t4) >>= fun t5 => pure (1 + t5)) >>= fun t6 => rangeO t6) >>= fun xs59 => forO (fun (s7 : Int × Int × (List (Int × Int)) × (List Int)) (x8 : Int) =>
((m_law_cell script (1 + x8)) >>= fun t9 => m_law_digits t9 [5, 6, 10, 60, 39, 5, 400]) >>= fun part =>
(((idx row 2) >>= fun t10 => pure (decide (0 < t10))) >>= fun t12 => if t12 = true then (idx part 0) >>= fun t11 => pure (decide (t11 < 3)) else pure false) >>= fun c13 => if c13 = true then (
((idx part 1) >>= fun t14 => pure (1 + t14)) >>= fun many =>
((((idx part 2) >>= fun t15 => pure (1 + t15)) >>= fun t16 => rangeO t16) >>= fun xs30 => forO (fun (s17 : (List (Int × Int)) × (List Int)) (x18 : Int) =>
((rangeO many) >>= fun xs28 => forO (fun (s19 : (List (Int × Int)) × (List Int)) (x20 : Int) =>
(((modO (x20 + x18) many) >>= fun t21 => pure (s7.2.1 + t21)) >>= fun t22 => pure (s7.1 + x20, t22)) >>= fun a23 => appO s19.1 a23 >>= fun edges =>
((((idx part 3) >>= fun t24 => pure (x18 + t24)) >>= fun t25 => pure t25) >>= fun t26 => modO t26 count) >>= fun a27 => appO s19.2 a27 >>= fun hues =>
pure (edges, hues)) xs28 (s17.1, s17.2)) >>= fun s29 =>
pure (s29.1, s29.2)) xs30 (s7.2.2.1, s7.2.2.2)) >>= fun s31 =>
(pure (s7.1 + many)) >>= fun lefts =>
(pure (s7.2.1 + many)) >>= fun rights =>
pure (lefts, rights, s31.1, s31.2))
else (
((idx part 4) >>= fun t32 => pure (1 + t32)) >>= fun size =>
((idx part 5) >>= fun t33 => pure (1 + t33)) >>= fun times =>
(((idx row 2) >>= fun t34 => pure (decide (t34 = 0))) >>= fun c35 => if c35 = true then (
((idx part 6) >>= fun t37 => pure (1600 + t37)) >>= fun size =>
((idx part 5) >>= fun t38 => pure (3 + t38)) >>= fun times =>
pure (size, times))
else (
pure (size, times))) >>= fun s36 =>
((rangeO s36.1) >>= fun xs55 => forO (fun (s39 : (List (Int × Int)) × (List Int)) (x40 : Int) =>
((((idx part 0) >>= fun t41 => pure (t41 % 2)) >>= fun t42 => pure (decide (t42 = 1))) >>= fun c43 => if c43 = true then (
(((divO x40 s36.2) >>= fun t45 => pure (s7.2.1 + t45)) >>= fun t46 => pure (s7.1, t46)) >>= fun a47 => appO s39.1 a47 >>= fun edges =>
pure edges)
else (
(((divO x40 s36.2) >>= fun t48 => pure (s7.1 + t48)) >>= fun t49 => pure (t49, s7.2.1)) >>= fun a50 => appO s39.1 a50 >>= fun edges =>
pure edges)) >>= fun s44 =>
((((idx part 3) >>= fun t51 => pure (x40 + t51)) >>= fun t52 => pure t52) >>= fun t53 => modO t53 count) >>= fun a54 => appO s39.2 a54 >>= fun hues =>
pure (s44, hues)) xs55 (s7.2.2.1, s7.2.2.2)) >>= fun s56 =>
((divO s36.1 s36.2) >>= fun t57 => pure ((s7.1 + 1) + t57)) >>= fun lefts =>
((divO s36.1 s36.2) >>= fun t58 => pure ((s7.2.1 + 1) + t58)) >>= fun rights =>
pure (lefts, rights, s56.1, s56.2))) xs59 (lefts, rights, edges, hues)) >>= fun s60 =>
pure (s60.2.2.1, s60.2.2.2)
theorem x_law_built : ∃ g : (List Int) → (List Int) → Int → Out ((List (Int × Int)) × (List Int)), g = b_law_built := ⟨_, rfl⟩
def m_law_built : (List Int) → (List Int) → Int → Out ((List (Int × Int)) × (List Int)) := Classical.choose x_law_built
theorem m_law_built_eq : m_law_built = b_law_built := Classical.choose_spec x_law_built
abbrev P_law_built : Par ((List Int) × (List Int) × Int × Unit) := (pC (tLstQ tInt) (pC (tLst tInt) (pC tInt pN)))
abbrev u_law_built (i : (List Int) × (List Int) × Int × Unit) : Out ((List (Int × Int)) × (List Int)) := m_law_built i.1 i.2.1 i.2.2.1
theorem sc_law_built : FnScope ["script", "row", "count", "edges", "hues", "lefts", "rights", "block", "part", "many", "shift", "size", "times", "k"] ["script", "row", "count"] (defScope s_law_built) := ⟨rfl, rfl, rfl, by decide +kernel, rfl, by decide +kernel, by decide +kernel⟩
abbrev sp_law_built (K : PySem.W.Frag) : Sp := Sps P_law_built u_law_built (tL2 (tLst (tT2 tInt tInt)) (tLst tInt)) K
theorem ok_law_built {fd : FuncData} (Z : Fre mg) (F : FunD K "_law_built" "_law_built" (defArgs s_law_built) (defBody s_law_built) (defScope s_law_built) [] [] (He.fAd K ("_law_built", none)) fd) (g : mg "_law_built" = some (.ref (He.fAd K ("_law_built", none)))) (G_law_cell : Def Pr w K mg base 1 "_law_cell" ["script", "k"] [] (sp_law_cell K)) (G_law_digits : Def Pr w K mg base 1 "_law_digits" ["cell", "sizes"] [] (sp_law_digits K))  : Def Pr w K mg base 2 "_law_built" ["script", "row", "count"] [] (sp_law_built K) := by
  refine ⟨_, fd, [], fn_body F sc_law_built rfl (by decide) (fun X E B i e1 e2 e3 e4 e5 hW C => ?_), g, F.kp, F.bindsN (fun _ _ _ _ _ _ us hl => match us, hl with | [_, _, _], _ => rfl), .nil⟩
  subst e1 e2 e3 e4 e5
  obtain ⟨script, row, count, _⟩ := i
  show WS X E B [iS (tLstQ tInt) script, iS (tLst tInt) row, iS tInt count, .any, .any, .any, .any, .any, .any, .any, .any, .any, .any, .any] [_] (m_law_built script row count) _
  rw [m_law_built_eq]
  unfold b_law_built
  exact ws_setO C 3 (WO.cast (m' := pure ([] : List (Int × Int))) (wo_lst (wal_nil (T := (tT2 tInt tInt)))) (by first | rfl | simp only [bind_as, pure_b])) (fun edges =>
ws_setO C 4 (WO.cast (m' := pure ([] : List Int)) (wo_lst (wal_nil (T := tInt))) (by first | rfl | simp only [bind_as, pure_b])) (fun hues =>
ws_set C 5 (WE.cast (m' := pure 0) we_int (by first | rfl | simp only [bind_as, pure_b])) (fun lefts =>
ws_set C 6 (WE.cast (m' := pure 0) we_int (by first | rfl | simp only [bind_as, pure_b])) (fun rights =>
ws_seq (Δ := (fun (s7 : Int × Int × (List (Int × Int)) × (List Int)) => [iS (tLstQ tInt) script, iS (tLst tInt) row, iS tInt count, .on _ (oLst (tT2 tInt tInt)) s7.2.2.1, .on _ (oLst tInt) s7.2.2.2, iS tInt s7.1, iS tInt s7.2.1, .any, .any, .any, .any, .any, .any, .any])) (w1_for C (WI.cast (m' := (((idx row 1) >>= fun t3 => (((idx row 2) >>= fun t1 => pure (decide (0 < t1))) >>= fun t2 => pure (if t2 = true then 1 else 0)) >>= fun t4 => mulO t3 t4) >>= fun t5 => pure (1 + t5)) >>= fun t6 => rangeO t6) (wi_range C Z (we_add we_int (we_mul (we_ixL (WE.rd (we_var C 1)) we_int) (we_intB C Z (we_gt (we_ixL (WE.rd (we_var C 1)) we_int) we_int))))) (by first | rfl | simp only [bind_as, pure_b])) (wg_name C 7) (Δ := (fun (s7 : Int × Int × (List (Int × Int)) × (List Int)) => [iS (tLstQ tInt) script, iS (tLst tInt) row, iS tInt count, .on _ (oLst (tT2 tInt tInt)) s7.2.2.1, .on _ (oLst tInt) s7.2.2.2, iS tInt s7.1, iS tInt s7.2.1, .any, .any, .any, .any, .any, .any, .any])) (s0 := (lefts, rights, edges, hues)) (Weak.same (Weak.same (Weak.same (Weak.same (Weak.same (Weak.same (Weak.same (Weak.same (Weak.same (Weak.same (Weak.same (Weak.same (Weak.same (Weak.same Weak.nil)))))))))))))) (by exact (fun s7 x8 =>
ws_set C 8 (WE.cast (m' := (m_law_cell script (1 + x8)) >>= fun t9 => m_law_digits t9 [5, 6, 10, 60, 39, 5, 400]) (WO.fz (wo_call C G_law_digits (by decide) (wa_cons (R := tInt.rl) (WE.cast (m' := m_law_cell script (1 + x8)) (we_call C G_law_cell (by decide) (wa_cons (R := (tLstQ tInt).rl) (we_var C 0) fun a0 => wa_cons (R := tInt.rl) (we_add we_int (we_var C 7)) fun a1 => wa_nil fun K F H s v1 r1 v0 r0 => ⟨(a0, a1, ()), rfl, v0, _, rfl, r0, v1, _, rfl, r1, rfl⟩)) (by first | (simp only [pure_b, bind_as]; done) | rfl)) fun a0 => wa_cons (R := (tLst tInt).rl) (WO.fz (wo_lst (wal_cons we_int (wal_cons we_int (wal_cons we_int (wal_cons we_int (wal_cons we_int (wal_cons we_int (wal_cons we_int wal_nil)))))))) (fz_lst _)) fun a1 => wa_nil fun K F H s v1 r1 v0 r0 => ⟨(a0, a1, ()), rfl, v0, _, rfl, r0, v1, _, rfl, r1, rfl⟩)) (fz_lst _)) (by first | (simp only [pure_b, bind_as]; done) | rfl)) (fun part =>
ws_if (WT.cast (m' := ((idx row 2) >>= fun t10 => pure (decide (0 < t10))) >>= fun t12 => if t12 = true then (idx part 0) >>= fun t11 => pure (decide (t11 < 3)) else pure false) (wt_b (wb_and (wt_gt (we_ixL (WE.rd (we_var C 1)) we_int) we_int) (wb_and1 (wt_lt (we_ixL (WE.rd (we_var C 8)) we_int) we_int)))) (by first | rfl | simp only [bind_as, pure_b])) (
ws_set C 9 (WE.cast (m' := (idx part 1) >>= fun t14 => pure (1 + t14)) (we_add we_int (we_ixL (WE.rd (we_var C 8)) we_int)) (by first | rfl | simp only [bind_as, pure_b])) (fun many =>
ws_seq (Δ := (fun (s17 : (List (Int × Int)) × (List Int)) => [iS (tLstQ tInt) script, iS (tLst tInt) row, iS tInt count, .on _ (oLst (tT2 tInt tInt)) s17.1, .on _ (oLst tInt) s17.2, iS tInt s7.1, iS tInt s7.2.1, iS tInt x8, iS (tLst tInt) part, iS tInt many, .any, .any, .any, .any])) (w1_for C (WI.cast (m' := ((idx part 2) >>= fun t15 => pure (1 + t15)) >>= fun t16 => rangeO t16) (wi_range C Z (we_add we_int (we_ixL (WE.rd (we_var C 8)) we_int))) (by first | rfl | simp only [bind_as, pure_b])) (wg_name C 10) (Δ := (fun (s17 : (List (Int × Int)) × (List Int)) => [iS (tLstQ tInt) script, iS (tLst tInt) row, iS tInt count, .on _ (oLst (tT2 tInt tInt)) s17.1, .on _ (oLst tInt) s17.2, iS tInt s7.1, iS tInt s7.2.1, iS tInt x8, iS (tLst tInt) part, iS tInt many, .any, .any, .any, .any])) (s0 := (s7.2.2.1, s7.2.2.2)) (Weak.same (Weak.same (Weak.same (Weak.same (Weak.same (Weak.same (Weak.same (Weak.same (Weak.same (Weak.same (Weak.same (Weak.same (Weak.same (Weak.same Weak.nil)))))))))))))) (by exact (fun s17 x18 =>
ws_seq (Δ := (fun (s19 : (List (Int × Int)) × (List Int)) => [iS (tLstQ tInt) script, iS (tLst tInt) row, iS tInt count, .on _ (oLst (tT2 tInt tInt)) s19.1, .on _ (oLst tInt) s19.2, iS tInt s7.1, iS tInt s7.2.1, iS tInt x8, iS (tLst tInt) part, iS tInt many, iS tInt x18, .any, .any, .any])) (w1_for C (WI.cast (m' := rangeO many) (wi_range C Z (we_var C 9)) (by first | rfl | simp only [bind_as, pure_b])) (wg_name C 13) (Δ := (fun (s19 : (List (Int × Int)) × (List Int)) => [iS (tLstQ tInt) script, iS (tLst tInt) row, iS tInt count, .on _ (oLst (tT2 tInt tInt)) s19.1, .on _ (oLst tInt) s19.2, iS tInt s7.1, iS tInt s7.2.1, iS tInt x8, iS (tLst tInt) part, iS tInt many, iS tInt x18, .any, .any, .any])) (s0 := (s17.1, s17.2)) (Weak.same (Weak.same (Weak.same (Weak.same (Weak.same (Weak.same (Weak.same (Weak.same (Weak.same (Weak.same (Weak.same (Weak.same (Weak.same (Weak.same Weak.nil)))))))))))))) (by exact (fun s19 x20 =>
ws_app C 3 (WE.cast (m' := ((modO (x20 + x18) many) >>= fun t21 => pure (s7.2.1 + t21)) >>= fun t22 => pure (s7.1 + x20, t22)) (we_t2 (we_add (we_var C 5) (we_var C 13)) (we_add (we_var C 6) (we_mod (we_intI C Z (we_add (we_var C 13) (we_var C 10))) (we_var C 9)))) (by first | rfl | simp only [bind_as, pure_b])) (fun edges =>
ws_app C 4 (WE.cast (m' := (((idx part 3) >>= fun t24 => pure (x18 + t24)) >>= fun t25 => pure t25) >>= fun t26 => modO t26 count) (we_mod (we_intI C Z (we_add (we_var C 10) (we_ixL (WE.rd (we_var C 8)) we_int))) (we_var C 2)) (by first | rfl | simp only [bind_as, pure_b])) (fun hues =>
ws_fin rfl (Weak.same (Weak.same (Weak.same (Weak.same (Weak.same (Weak.same (Weak.same (Weak.same (Weak.same (Weak.same (Weak.same (Weak.same (Weak.same (Weak.any Weak.nil))))))))))))))))))) (fun s29 =>
ws_fin rfl (Weak.same (Weak.same (Weak.same (Weak.same (Weak.same (Weak.same (Weak.same (Weak.same (Weak.same (Weak.same (Weak.any (Weak.same (Weak.same (Weak.same Weak.nil)))))))))))))))))) (fun s31 =>
ws_set C 5 (WE.cast (m' := pure (s7.1 + many)) (we_add (we_var C 5) (we_var C 9)) (by first | rfl | simp only [bind_as, pure_b])) (fun lefts =>
ws_set C 6 (WE.cast (m' := pure (s7.2.1 + many)) (we_add (we_var C 6) (we_var C 9)) (by first | rfl | simp only [bind_as, pure_b])) (fun rights =>
ws_pop (ws_fin rfl (Weak.same (Weak.same (Weak.same (Weak.same (Weak.same (Weak.same (Weak.same (Weak.any (Weak.any (Weak.any (Weak.same (Weak.same (Weak.same (Weak.same Weak.nil)))))))))))))))))))) (
ws_set C 11 (WE.cast (m' := (idx part 4) >>= fun t32 => pure (1 + t32)) (we_add we_int (we_ixL (WE.rd (we_var C 8)) we_int)) (by first | rfl | simp only [bind_as, pure_b])) (fun size =>
ws_set C 12 (WE.cast (m' := (idx part 5) >>= fun t33 => pure (1 + t33)) (we_add we_int (we_ixL (WE.rd (we_var C 8)) we_int)) (by first | rfl | simp only [bind_as, pure_b])) (fun times =>
ws_seq (Δ := (fun (s36 : Int × Int) => [iS (tLstQ tInt) script, iS (tLst tInt) row, iS tInt count, .on _ (oLst (tT2 tInt tInt)) s7.2.2.1, .on _ (oLst tInt) s7.2.2.2, iS tInt s7.1, iS tInt s7.2.1, iS tInt x8, iS (tLst tInt) part, .any, .any, iS tInt s36.1, iS tInt s36.2, .any])) (w1_if (WT.cast (m' := (idx row 2) >>= fun t34 => pure (decide (t34 = 0))) (wt_eq eqs_int (we_ixL (WE.rd (we_var C 1)) we_int) we_int) (by first | rfl | simp only [bind_as, pure_b])) (
ws_set C 11 (WE.cast (m' := (idx part 6) >>= fun t37 => pure (1600 + t37)) (we_add we_int (we_ixL (WE.rd (we_var C 8)) we_int)) (by first | rfl | simp only [bind_as, pure_b])) (fun size =>
ws_set C 12 (WE.cast (m' := (idx part 5) >>= fun t38 => pure (3 + t38)) (we_add we_int (we_ixL (WE.rd (we_var C 8)) we_int)) (by first | rfl | simp only [bind_as, pure_b])) (fun times =>
ws_fin rfl (Weak.same (Weak.same (Weak.same (Weak.same (Weak.same (Weak.same (Weak.same (Weak.same (Weak.same (Weak.same (Weak.same (Weak.same (Weak.same (Weak.same Weak.nil))))))))))))))))) (
ws_fin rfl (Weak.same (Weak.same (Weak.same (Weak.same (Weak.same (Weak.same (Weak.same (Weak.same (Weak.same (Weak.same (Weak.same (Weak.same (Weak.same (Weak.same Weak.nil)))))))))))))))) (fun s36 =>
ws_seq (Δ := (fun (s39 : (List (Int × Int)) × (List Int)) => [iS (tLstQ tInt) script, iS (tLst tInt) row, iS tInt count, .on _ (oLst (tT2 tInt tInt)) s39.1, .on _ (oLst tInt) s39.2, iS tInt s7.1, iS tInt s7.2.1, iS tInt x8, iS (tLst tInt) part, .any, .any, iS tInt s36.1, iS tInt s36.2, .any])) (w1_for C (WI.cast (m' := rangeO s36.1) (wi_range C Z (we_var C 11)) (by first | rfl | simp only [bind_as, pure_b])) (wg_name C 13) (Δ := (fun (s39 : (List (Int × Int)) × (List Int)) => [iS (tLstQ tInt) script, iS (tLst tInt) row, iS tInt count, .on _ (oLst (tT2 tInt tInt)) s39.1, .on _ (oLst tInt) s39.2, iS tInt s7.1, iS tInt s7.2.1, iS tInt x8, iS (tLst tInt) part, .any, .any, iS tInt s36.1, iS tInt s36.2, .any])) (s0 := (s7.2.2.1, s7.2.2.2)) (Weak.same (Weak.same (Weak.same (Weak.same (Weak.same (Weak.same (Weak.same (Weak.same (Weak.same (Weak.same (Weak.same (Weak.same (Weak.same (Weak.same Weak.nil)))))))))))))) (by exact (fun s39 x40 =>
ws_seq (Δ := (fun (s44 : (List (Int × Int))) => [iS (tLstQ tInt) script, iS (tLst tInt) row, iS tInt count, .on _ (oLst (tT2 tInt tInt)) s44, .on _ (oLst tInt) s39.2, iS tInt s7.1, iS tInt s7.2.1, iS tInt x8, iS (tLst tInt) part, .any, .any, iS tInt s36.1, iS tInt s36.2, iS tInt x40])) (w1_if (WT.cast (m' := ((idx part 0) >>= fun t41 => pure (t41 % 2)) >>= fun t42 => pure (decide (t42 = 1))) (wt_eq eqs_int (we_modR (we_ixL (WE.rd (we_var C 8)) we_int) we_int) we_int) (by first | rfl | simp only [bind_as, pure_b])) (
ws_app C 3 (WE.cast (m' := ((divO x40 s36.2) >>= fun t45 => pure (s7.2.1 + t45)) >>= fun t46 => pure (s7.1, t46)) (we_t2 (we_var C 5) (we_add (we_var C 6) (we_div (we_var C 13) (we_var C 12)))) (by first | rfl | simp only [bind_as, pure_b])) (fun edges =>
ws_fin rfl (Weak.same (Weak.same (Weak.same (Weak.same (Weak.same (Weak.same (Weak.same (Weak.same (Weak.same (Weak.same (Weak.same (Weak.same (Weak.same (Weak.same Weak.nil)))))))))))))))) (
ws_app C 3 (WE.cast (m' := ((divO x40 s36.2) >>= fun t48 => pure (s7.1 + t48)) >>= fun t49 => pure (t49, s7.2.1)) (we_t2 (we_add (we_var C 5) (we_div (we_var C 13) (we_var C 12))) (we_var C 6)) (by first | rfl | simp only [bind_as, pure_b])) (fun edges =>
ws_fin rfl (Weak.same (Weak.same (Weak.same (Weak.same (Weak.same (Weak.same (Weak.same (Weak.same (Weak.same (Weak.same (Weak.same (Weak.same (Weak.same (Weak.same Weak.nil))))))))))))))))) (fun s44 =>
ws_app C 4 (WE.cast (m' := (((idx part 3) >>= fun t51 => pure (x40 + t51)) >>= fun t52 => pure t52) >>= fun t53 => modO t53 count) (we_mod (we_intI C Z (we_add (we_var C 13) (we_ixL (WE.rd (we_var C 8)) we_int))) (we_var C 2)) (by first | rfl | simp only [bind_as, pure_b])) (fun hues =>
ws_fin rfl (Weak.same (Weak.same (Weak.same (Weak.same (Weak.same (Weak.same (Weak.same (Weak.same (Weak.same (Weak.same (Weak.same (Weak.same (Weak.same (Weak.any Weak.nil))))))))))))))))))) (fun s56 =>
ws_set C 5 (WE.cast (m' := (divO s36.1 s36.2) >>= fun t57 => pure ((s7.1 + 1) + t57)) (we_add (we_add (we_var C 5) we_int) (we_div (we_var C 11) (we_var C 12))) (by first | rfl | simp only [bind_as, pure_b])) (fun lefts =>
ws_set C 6 (WE.cast (m' := (divO s36.1 s36.2) >>= fun t58 => pure ((s7.2.1 + 1) + t58)) (we_add (we_add (we_var C 6) we_int) (we_div (we_var C 11) (we_var C 12))) (by first | rfl | simp only [bind_as, pure_b])) (fun rights =>
ws_pop (ws_fin rfl (Weak.same (Weak.same (Weak.same (Weak.same (Weak.same (Weak.same (Weak.same (Weak.any (Weak.any (Weak.same (Weak.same (Weak.any (Weak.any (Weak.same Weak.nil)))))))))))))))))))))))))) (fun s60 =>
ws_fz 3 (fz_lst _) hW rfl (
ws_fz 4 (fz_lst _) hW rfl (
ws_ret0 (WE.cast (m' := pure (s60.2.2.1, s60.2.2.2)) (we_l2 (we_var C 3) (we_var C 4)) (by first | rfl | simp only [bind_as, pure_b])) (fun _ => rfl))))))))
def b_law_mixed (built : (List (Int × Int)) × (List Int)) (row : List Int) : Out ((List (Int × Int)) × (List Int)) :=
(pure (built.1.length : Int)) >>= fun many =>
((((rangeO many) >>= fun t8 => mapO (fun k1 => ((((((idx row 3) >>= fun t2 => pure (1 + t2)) >>= fun t3 => mulO (k1 + 1) t3) >>= fun t4 => pure t4) >>= fun t5 => pure (t5 % 1000003)) >>= fun t6 => pure (t6 * 4096)) >>= fun t7 => pure (t7 + k1)) t8) >>= fun t10 => pure (sortI t10)) >>= fun xs13 => mapO (fun key11 => pure (key11 % 4096)) xs13) >>= fun order =>
(pure ([] : List (Int × Int))) >>= fun edges =>
((pure order) >>= fun xs23 => forO (fun (s14 : (List (Int × Int))) (x15 : Int) =>
(idx built.1 x15) >>= fun ends =>
(((idx row 4) >>= fun t16 => (idx row 6) >>= fun t17 => m_law_number t16 t17 ends.1) >>= fun t20 => ((idx row 5) >>= fun t18 => (idx row 6) >>= fun t19 => m_law_number t18 t19 ends.2) >>= fun t21 => pure (t20, t21)) >>= fun a22 => appO s14 a22 >>= fun edges =>
pure edges) xs23 edges) >>= fun s24 =>
(mapO (fun k25 => idx built.2 k25) order) >>= fun t27 => pure (s24, t27)
theorem x_law_mixed : ∃ g : ((List (Int × Int)) × (List Int)) → (List Int) → Out ((List (Int × Int)) × (List Int)), g = b_law_mixed := ⟨_, rfl⟩
def m_law_mixed : ((List (Int × Int)) × (List Int)) → (List Int) → Out ((List (Int × Int)) × (List Int)) := Classical.choose x_law_mixed
theorem m_law_mixed_eq : m_law_mixed = b_law_mixed := Classical.choose_spec x_law_mixed
abbrev P_law_mixed : Par (((List (Int × Int)) × (List Int)) × (List Int) × Unit) := (pC (tL2 (tLst (tT2 tInt tInt)) (tLst tInt)) (pC (tLst tInt) pN))
abbrev u_law_mixed (i : ((List (Int × Int)) × (List Int)) × (List Int) × Unit) : Out ((List (Int × Int)) × (List Int)) := m_law_mixed i.1 i.2.1
theorem sc_law_mixed : FnScope ["built", "row", "many", "order", "edges", "k", "ends", "key"] ["built", "row"] (defScope s_law_mixed) := ⟨rfl, rfl, rfl, by decide +kernel, rfl, by decide +kernel, by decide +kernel⟩
abbrev sp_law_mixed (K : PySem.W.Frag) : Sp := Sps P_law_mixed u_law_mixed (tL2 (tLst (tT2 tInt tInt)) (tLst tInt)) K
theorem ok_law_mixed {fd : FuncData} (Z : Fre mg) (F : FunD K "_law_mixed" "_law_mixed" (defArgs s_law_mixed) (defBody s_law_mixed) (defScope s_law_mixed) [] [] (He.fAd K ("_law_mixed", none)) fd) (g : mg "_law_mixed" = some (.ref (He.fAd K ("_law_mixed", none)))) (G_law_number : Def Pr w K mg base 1 "_law_number" ["base", "step", "index"] [] (sp_law_number K))  : Def Pr w K mg base 2 "_law_mixed" ["built", "row"] [] (sp_law_mixed K) := by
  refine ⟨_, fd, [], fn_body F sc_law_mixed rfl (by decide) (fun X E B i e1 e2 e3 e4 e5 hW C => ?_), g, F.kp, F.bindsN (fun _ _ _ _ _ _ us hl => match us, hl with | [_, _], _ => rfl), .nil⟩
  subst e1 e2 e3 e4 e5
  obtain ⟨built, row, _⟩ := i
  show WS X E B [iS (tL2 (tLst (tT2 tInt tInt)) (tLst tInt)) built, iS (tLst tInt) row, .any, .any, .any, .any, .any, .any] [_] (m_law_mixed built row) _
  rw [m_law_mixed_eq]
  unfold b_law_mixed
  exact ws_set C 2 (WE.cast (m' := pure (built.1.length : Int)) (we_lenL C Z (WE.rd (we_prj pl20 (we_var C 0)))) (by first | rfl | simp only [bind_as, pure_b])) (fun many =>
ws_lc (f := _) C 3 [("key", 7)] (by decide +kernel) (WI.cast (m' := ((rangeO many) >>= fun t8 => mapO (fun k1 => ((((((idx row 3) >>= fun t2 => pure (1 + t2)) >>= fun t3 => mulO (k1 + 1) t3) >>= fun t4 => pure t4) >>= fun t5 => pure (t5 % 1000003)) >>= fun t6 => pure (t6 * 4096)) >>= fun t7 => pure (t7 + k1)) t8) >>= fun t10 => pure (sortI t10)) (wi_lst (WO.fz (wo_sorted C Z (WO.rd (wo_lc C [("k", 5)] (by decide +kernel) (WI.cast (m' := rangeO many) (wi_range C Z (we_var C 2)) (by first | rfl | simp only [bind_as, pure_b])) (ix := [5]) (by decide) (fun s_ H_ Cc_ cl_ fp_ C => (wg_name C 5)) (fun s_ H_ Cc_ cl_ fp_ k1 C => WE.cast (m' := ((((((idx row 3) >>= fun t2 => pure (1 + t2)) >>= fun t3 => mulO (k1 + 1) t3) >>= fun t4 => pure t4) >>= fun t5 => pure (t5 % 1000003)) >>= fun t6 => pure (t6 * 4096)) >>= fun t7 => pure (t7 + k1)) (we_add (we_mulR (we_modR (we_intI C Z (we_mul (we_add (we_var C 5) we_int) (we_add we_int (we_ixL (WE.rd (we_var C 1)) we_int)))) we_int) we_int) (we_var C 5)) (by first | rfl | simp only [bind_as, pure_b]))))) (fz_lst _))) (by first | rfl | simp only [bind_as, pure_b])) (ix := [7]) (by decide) (fun s_ H_ Cc_ cl_ fp_ C => (wg_name C 7)) (fun s_ H_ Cc_ cl_ fp_ key11 C => WE.cast (m' := pure (key11 % 4096)) (we_modR (we_var C 7) we_int) (by first | rfl | simp only [bind_as, pure_b])) (fun order => ws_fz 3 (fz_lst _) hW rfl (
ws_setO C 4 (WO.cast (m' := pure ([] : List (Int × Int))) (wo_lst (wal_nil (T := (tT2 tInt tInt)))) (by first | rfl | simp only [bind_as, pure_b])) (fun edges =>
ws_seq (Δ := (fun (s14 : (List (Int × Int))) => [iS (tL2 (tLst (tT2 tInt tInt)) (tLst tInt)) built, iS (tLst tInt) row, iS tInt many, iS (tLst tInt) order, .on _ (oLst (tT2 tInt tInt)) s14, .any, .any, .any])) (w1_for C (WI.cast (m' := pure order) (wi_lst (we_var C 3)) (by first | rfl | simp only [bind_as, pure_b])) (wg_name C 5) (Δ := (fun (s14 : (List (Int × Int))) => [iS (tL2 (tLst (tT2 tInt tInt)) (tLst tInt)) built, iS (tLst tInt) row, iS tInt many, iS (tLst tInt) order, .on _ (oLst (tT2 tInt tInt)) s14, .any, .any, .any])) (s0 := edges) (Weak.same (Weak.same (Weak.same (Weak.same (Weak.same (Weak.same (Weak.same (Weak.same Weak.nil)))))))) (by exact (fun s14 x15 =>
ws_set C 6 (WE.cast (m' := idx built.1 x15) (we_ixL (WE.rd (we_prj pl20 (we_var C 0))) (we_var C 5)) (by first | rfl | simp only [bind_as, pure_b])) (fun ends =>
ws_app C 4 (WE.cast (m' := ((idx row 4) >>= fun t16 => (idx row 6) >>= fun t17 => m_law_number t16 t17 ends.1) >>= fun t20 => ((idx row 5) >>= fun t18 => (idx row 6) >>= fun t19 => m_law_number t18 t19 ends.2) >>= fun t21 => pure (t20, t21)) (we_t2 (we_call C G_law_number (by decide) (wa_cons (R := tInt.rl) (WE.cast (m' := idx row 4) (we_ixL (WE.rd (we_var C 1)) we_int) (by first | rfl | simp only [bind_as, pure_b])) fun a0 => wa_cons (R := tInt.rl) (WE.cast (m' := idx row 6) (we_ixL (WE.rd (we_var C 1)) we_int) (by first | rfl | simp only [bind_as, pure_b])) fun a1 => wa_cons (R := tInt.rl) (we_prj pj20 (we_var C 6)) fun a2 => wa_nil fun K F H s v2 r2 v1 r1 v0 r0 => ⟨(a0, a1, a2, ()), rfl, v0, _, rfl, r0, v1, _, rfl, r1, v2, _, rfl, r2, rfl⟩)) (we_call C G_law_number (by decide) (wa_cons (R := tInt.rl) (WE.cast (m' := idx row 5) (we_ixL (WE.rd (we_var C 1)) we_int) (by first | rfl | simp only [bind_as, pure_b])) fun a0 => wa_cons (R := tInt.rl) (WE.cast (m' := idx row 6) (we_ixL (WE.rd (we_var C 1)) we_int) (by first | rfl | simp only [bind_as, pure_b])) fun a1 => wa_cons (R := tInt.rl) (we_prj pj21 (we_var C 6)) fun a2 => wa_nil fun K F H s v2 r2 v1 r1 v0 r0 => ⟨(a0, a1, a2, ()), rfl, v0, _, rfl, r0, v1, _, rfl, r1, v2, _, rfl, r2, rfl⟩))) (by first | (simp only [pure_b, bind_as]; done) | rfl)) (fun edges =>
ws_fin rfl (Weak.same (Weak.same (Weak.same (Weak.same (Weak.same (Weak.any (Weak.any (Weak.same Weak.nil))))))))))))) (fun s24 =>
ws_fz 4 (fz_lst _) hW rfl (
ws_ret0 (WE.cast (m' := (mapO (fun k25 => idx built.2 k25) order) >>= fun t27 => pure (s24, t27)) (we_l2 (we_var C 4) (WO.fz (wo_lc C [("k", 5)] (by decide +kernel) (WI.cast (m' := pure order) (wi_lst (we_var C 3)) (by first | rfl | simp only [bind_as, pure_b])) (ix := [5]) (by decide) (fun s_ H_ Cc_ cl_ fp_ C => (wg_name C 5)) (fun s_ H_ Cc_ cl_ fp_ k25 C => WE.cast (m' := idx built.2 k25) (we_ixL (WE.rd (we_prj pl21 (we_var C 0))) (we_var C 5)) (by first | rfl | simp only [bind_as, pure_b]))) (fz_lst _))) (by first | rfl | simp only [bind_as, pure_b])) (fun _ => rfl)))))))
def b_law_even_side (edges : List (Int × Int)) (side : Int) (count : Int) (hues : List Int) : Out Bool :=
(pure ([] : List (Int × (List Int)))) >>= fun counts =>
((pure (upto edges.length)) >>= fun xs19 => forO (fun (s1 : (List (Int × (List Int)))) (x2 : Int) =>
(((idx edges x2) >>= fun t3 => pure [t3.1, t3.2]) >>= fun t4 => idx t4 side) >>= fun number =>
((pure (!(aget s1 number).isSome)) >>= fun c5 => if c5 = true then (
(repO [0] count) >>= fun a7 => (pure (s1, fun b => b)) >>= fun r9 => (pure number) >>= fun j8 => aputO r9.1 j8 a7 >>= fun l10 =>
pure (r9.2 l10))
else (
pure s1)) >>= fun s6 =>
(subD (s6, fun b => b) number) >>= fun r11 =>
(((idx hues x2) >>= fun t17 => idx r11.1 t17) >>= fun t18 => pure (t18 + 1)) >>= fun a13 => (pure (r11.1, fun b => b)) >>= fun r15 => (idx hues x2) >>= fun j14 => setO r15.1 j14 a13 >>= fun l16 =>
pure (r11.2 (r15.2 l16))) xs19 counts) >>= fun s20 =>
((pure (s20.map Prod.fst)) >>= fun xs28 => forR (fun (s21 : Unit) (x22 : Int) =>
(agetO s20 x22) >>= fun row =>
(((maxL row) >>= fun t23 => (minL row) >>= fun t24 => pure (t23 - t24)) >>= fun t25 => pure (decide (1 < t25))) >>= fun c26 => if c26 = true then (
(pure false) >>= fun r27 => pure (Step.rt r27))
else (
pure (Step.nx ()))) xs28 ()) >>= fun t31 => (match t31 with
| Step.rt r30 => pure r30
| Step.nx s29 =>
pure true)
theorem x_law_even_side : ∃ g : (List (Int × Int)) → Int → Int → (List Int) → Out Bool, g = b_law_even_side := ⟨_, rfl⟩
def m_law_even_side : (List (Int × Int)) → Int → Int → (List Int) → Out Bool := Classical.choose x_law_even_side
theorem m_law_even_side_eq : m_law_even_side = b_law_even_side := Classical.choose_spec x_law_even_side
abbrev P_law_even_side : Par ((List (Int × Int)) × Int × Int × (List Int) × Unit) := (pC (tLst (tT2 tInt tInt)) (pC tInt (pC tInt (pC (tLst tInt) pN))))
abbrev u_law_even_side (i : (List (Int × Int)) × Int × Int × (List Int) × Unit) : Out Bool := m_law_even_side i.1 i.2.1 i.2.2.1 i.2.2.2.1
theorem sc_law_even_side : FnScope ["edges", "side", "count", "hues", "counts", "k", "number", "row"] ["edges", "side", "count", "hues"] (defScope s_law_even_side) := ⟨rfl, rfl, rfl, by decide +kernel, rfl, by decide +kernel, by decide +kernel⟩
abbrev sp_law_even_side (K : PySem.W.Frag) : Sp := Sps P_law_even_side u_law_even_side tBool K
theorem ok_law_even_side {fd : FuncData} (Z : Fre mg) (F : FunD K "_law_even_side" "_law_even_side" (defArgs s_law_even_side) (defBody s_law_even_side) (defScope s_law_even_side) [] [] (He.fAd K ("_law_even_side", none)) fd) (g : mg "_law_even_side" = some (.ref (He.fAd K ("_law_even_side", none))))   : Def Pr w K mg base 1 "_law_even_side" ["edges", "side", "count", "hues"] [] (sp_law_even_side K) := by
  refine ⟨_, fd, [], fn_body F sc_law_even_side rfl (by decide) (fun X E B i e1 e2 e3 e4 e5 hW C => ?_), g, F.kp, F.bindsN (fun _ _ _ _ _ _ us hl => match us, hl with | [_, _, _, _], _ => rfl), .nil⟩
  subst e1 e2 e3 e4 e5
  obtain ⟨edges, side, count, hues, _⟩ := i
  show WS X E B [iS (tLst (tT2 tInt tInt)) edges, iS tInt side, iS tInt count, iS (tLst tInt) hues, .any, .any, .any, .any] [_] (m_law_even_side edges side count hues) _
  rw [m_law_even_side_eq]
  unfold b_law_even_side
  exact ws_setO C 4 (WO.cast (m' := pure ([] : List (Int × (List Int)))) (wo_dicI (O := (oLst tInt))) (by first | rfl | simp only [bind_as, pure_b])) (fun counts =>
ws_seq (Δ := (fun (s1 : (List (Int × (List Int)))) => [iS (tLst (tT2 tInt tInt)) edges, iS tInt side, iS tInt count, iS (tLst tInt) hues, .on _ (oDi kdI (oLst tInt)) s1, .any, .any, .any])) (w1_for C (WI.cast (m' := pure (upto edges.length)) (wi_rlen C Z rl_len (WE.rd (we_var C 0))) (by first | rfl | simp only [bind_as, pure_b])) (wg_name C 5) (Δ := (fun (s1 : (List (Int × (List Int)))) => [iS (tLst (tT2 tInt tInt)) edges, iS tInt side, iS tInt count, iS (tLst tInt) hues, .on _ (oDi kdI (oLst tInt)) s1, .any, .any, .any])) (s0 := counts) (Weak.same (Weak.same (Weak.same (Weak.same (Weak.same (Weak.same (Weak.same (Weak.same Weak.nil)))))))) (by exact (fun s1 x2 =>
ws_set C 6 (WE.cast (m' := ((idx edges x2) >>= fun t3 => pure [t3.1, t3.2]) >>= fun t4 => idx t4 side) (we_ixT (WE.map (we_ixL (WE.rd (we_var C 0)) (we_var C 5)) (fun (a : Int × Int) => [a.1, a.2]) t2_tup) (we_var C 1)) (by first | rfl | simp only [bind_as, pure_b])) (fun number =>
ws_seq (Δ := (fun (s6 : (List (Int × (List Int)))) => [iS (tLst (tT2 tInt tInt)) edges, iS tInt side, iS tInt count, iS (tLst tInt) hues, .on _ (oDi kdI (oLst tInt)) s6, iS tInt x2, iS tInt number, .any])) (w1_if (WT.cast (m' := pure (!(aget s1 number).isSome)) (wt_vnin (KD := kdI) C (we_var C 6) (we_vw C 4)) (by first | rfl | simp only [bind_as, pure_b])) (
ws_lput (KD := kdI) C 4 (WO.cast (m' := repO [0] count) (wo_rep (WO.rh (wo_lst (wal_cons we_int wal_nil))) (we_var C 2)) (by first | rfl | simp only [bind_as, pure_b])) (WL.cast (m' := pure (s1, fun b => b)) (wl_var C 4) (by first | rfl | simp only [bind_as, pure_b])) (WE.cast (m' := pure number) (we_var C 6) (by first | rfl | simp only [bind_as, pure_b])) (fun r9 l10 =>
ws_fin rfl (Weak.same (Weak.same (Weak.same (Weak.same (Weak.same (Weak.same (Weak.same (Weak.same Weak.nil)))))))))) (
ws_fin rfl (Weak.same (Weak.same (Weak.same (Weak.same (Weak.same (Weak.same (Weak.same (Weak.same Weak.nil)))))))))) (fun s6 =>
ws_focus C 4 7 (WL.cast (m' := subD (s6, fun b => b) number) (wl_dget (KD := kdI) C (wl_var C 4) (we_var C 6)) (by first | rfl | simp only [bind_as, pure_b])) (fun r11 w12 =>
ws_lset 7 (WE.cast (m' := ((idx hues x2) >>= fun t17 => idx r11.1 t17) >>= fun t18 => pure (t18 + 1)) (we_add (we_ixL (WE.hr (WE.vl (we_vwi C 7))) (we_ixL (WE.rd (we_var C 3)) (we_var C 5))) we_int) (by first | rfl | simp only [bind_as, pure_b])) (WL.cast (m' := pure (r11.1, fun b => b)) (wl_is C 7) (by first | rfl | simp only [bind_as, pure_b])) (WE.cast (m' := idx hues x2) (we_ixL (WE.rd (we_var C 3)) (we_var C 5)) (by first | rfl | simp only [bind_as, pure_b])) (fun r15 l16 =>
ws_unfocus 4 7 rfl rfl (
ws_fin rfl (Weak.same (Weak.same (Weak.same (Weak.same (Weak.same (Weak.any (Weak.any (Weak.same Weak.nil)))))))))))))))) (fun s20 =>
ws_fzd 4 (fz_lst _) mut_I hW rfl (
ws_cons (D1 := DR (fun (s21 : Unit) => [iS (tLst (tT2 tInt tInt)) edges, iS tInt side, iS tInt count, iS (tLst tInt) hues, iS (tDi kdI (tLst tInt)) s20, .any, .any, .any]) (fun b => .rt _ tBool b)) (w1_forR C (WI.cast (m' := pure (s20.map Prod.fst)) (wi_keys (we_var C 4)) (by first | rfl | simp only [bind_as, pure_b])) (wg_name C 6) (Δ := (fun (s21 : Unit) => [iS (tLst (tT2 tInt tInt)) edges, iS tInt side, iS tInt count, iS (tLst tInt) hues, iS (tDi kdI (tLst tInt)) s20, .any, .any, .any])) (s0 := ()) (Rt := (fun b => .rt _ tBool b)) (Weak.same (Weak.same (Weak.same (Weak.same (Weak.same (Weak.same (Weak.same (Weak.same Weak.nil)))))))) (by exact (fun s21 x22 =>
ws_set C 7 (WE.cast (m' := agetO s20 x22) (we_fdget (KD := kdI) C (we_var C 4) (we_var C 6)) (by first | rfl | simp only [bind_as, pure_b])) (fun row =>
ws_if (WT.cast (m' := ((maxL row) >>= fun t23 => (minL row) >>= fun t24 => pure (t23 - t24)) >>= fun t25 => pure (decide (1 < t25))) (wt_gt (we_sub (we_maxL C Z (WE.rd (we_var C 7))) (we_minL C Z (WE.rd (we_var C 7)))) we_int) (by first | rfl | simp only [bind_as, pure_b])) (
ws_ret (g := Step.rt) (WE.cast (m' := pure false) we_bl (by first | rfl | simp only [bind_as, pure_b])) (fun _ => rfl)) (
ws_pop (ws_fin rfl (Weak.same (Weak.same (Weak.same (Weak.same (Weak.same (Weak.same (Weak.any (Weak.any Weak.nil))))))))))))) (fun r => .inl ⟨_, _, _, rfl⟩)) (fun t31 => match t31 with
| Step.rt r30 => .inr ⟨trivial, r30, rfl, rfl⟩
| Step.nx s29 => .inl ⟨_, rfl, (
ws_ret0 (WE.cast (m' := pure true) we_bl (by first | rfl | simp only [bind_as, pure_b])) (fun _ => rfl))⟩))))
def b_law_even (edges : List (Int × Int)) (count : Int) (hues : List Int) : Out Bool :=
((pure hues) >>= fun xs5 => forR (fun (s1 : Unit) (x2 : Int) =>
(if (decide (x2 < 0)) = true then pure true else pure (decide (count ≤ x2))) >>= fun c3 => if c3 = true then (
(pure false) >>= fun r4 => pure (Step.rt r4))
else (
pure (Step.nx ()))) xs5 ()) >>= fun t9 => (match t9 with
| Step.rt r8 => pure r8
| Step.nx s6 =>
(m_law_even_side edges 0 count hues) >>= fun t7 => if t7 = true then m_law_even_side edges 1 count hues else pure false)
theorem x_law_even : ∃ g : (List (Int × Int)) → Int → (List Int) → Out Bool, g = b_law_even := ⟨_, rfl⟩
def m_law_even : (List (Int × Int)) → Int → (List Int) → Out Bool := Classical.choose x_law_even
theorem m_law_even_eq : m_law_even = b_law_even := Classical.choose_spec x_law_even
abbrev P_law_even : Par ((List (Int × Int)) × Int × (List Int) × Unit) := (pC (tLst (tT2 tInt tInt)) (pC tInt (pC (tLst tInt) pN)))
abbrev u_law_even (i : (List (Int × Int)) × Int × (List Int) × Unit) : Out Bool := m_law_even i.1 i.2.1 i.2.2.1
theorem sc_law_even : FnScope ["edges", "count", "hues", "hue"] ["edges", "count", "hues"] (defScope s_law_even) := ⟨rfl, rfl, rfl, by decide +kernel, rfl, by decide +kernel, by decide +kernel⟩
abbrev sp_law_even (K : PySem.W.Frag) : Sp := Sps P_law_even u_law_even tBool K
theorem ok_law_even {fd : FuncData} (Z : Fre mg) (F : FunD K "_law_even" "_law_even" (defArgs s_law_even) (defBody s_law_even) (defScope s_law_even) [] [] (He.fAd K ("_law_even", none)) fd) (g : mg "_law_even" = some (.ref (He.fAd K ("_law_even", none)))) (G_law_even_side : Def Pr w K mg base 1 "_law_even_side" ["edges", "side", "count", "hues"] [] (sp_law_even_side K))  : Def Pr w K mg base 2 "_law_even" ["edges", "count", "hues"] [] (sp_law_even K) := by
  refine ⟨_, fd, [], fn_body F sc_law_even rfl (by decide) (fun X E B i e1 e2 e3 e4 e5 hW C => ?_), g, F.kp, F.bindsN (fun _ _ _ _ _ _ us hl => match us, hl with | [_, _, _], _ => rfl), .nil⟩
  subst e1 e2 e3 e4 e5
  obtain ⟨edges, count, hues, _⟩ := i
  show WS X E B [iS (tLst (tT2 tInt tInt)) edges, iS tInt count, iS (tLst tInt) hues, .any] [_] (m_law_even edges count hues) _
  rw [m_law_even_eq]
  unfold b_law_even
  exact ws_cons (D1 := DR (fun (s1 : Unit) => [iS (tLst (tT2 tInt tInt)) edges, iS tInt count, iS (tLst tInt) hues, .any]) (fun b => .rt _ tBool b)) (w1_forR C (WI.cast (m' := pure hues) (wi_lst (we_var C 2)) (by first | rfl | simp only [bind_as, pure_b])) (wg_name C 3) (Δ := (fun (s1 : Unit) => [iS (tLst (tT2 tInt tInt)) edges, iS tInt count, iS (tLst tInt) hues, .any])) (s0 := ()) (Rt := (fun b => .rt _ tBool b)) (Weak.same (Weak.same (Weak.same (Weak.same Weak.nil)))) (by exact (fun s1 x2 =>
ws_if (WT.cast (m' := if (decide (x2 < 0)) = true then pure true else pure (decide (count ≤ x2))) (wt_b (wb_or (wt_lt (we_var C 3) we_int) (wb_or1 (wt_ge (we_var C 3) (we_var C 1))))) (by first | rfl | simp only [bind_as, pure_b])) (
ws_ret (g := Step.rt) (WE.cast (m' := pure false) we_bl (by first | rfl | simp only [bind_as, pure_b])) (fun _ => rfl)) (
ws_pop (ws_fin rfl (Weak.same (Weak.same (Weak.same (Weak.any Weak.nil)))))))) (fun r => .inl ⟨_, _, _, rfl⟩)) (fun t9 => match t9 with
| Step.rt r8 => .inr ⟨trivial, r8, rfl, rfl⟩
| Step.nx s6 => .inl ⟨_, rfl, (
ws_ret0 (WE.cast (m' := (m_law_even_side edges 0 count hues) >>= fun t7 => if t7 = true then m_law_even_side edges 1 count hues else pure false) (we_and (we_call C G_law_even_side (by decide) (wa_cons (R := (tLst (tT2 tInt tInt)).rl) (we_var C 0) fun a0 => wa_cons (R := tInt.rl) we_int fun a1 => wa_cons (R := tInt.rl) (we_var C 1) fun a2 => wa_cons (R := (tLst tInt).rl) (we_var C 2) fun a3 => wa_nil fun K F H s v3 r3 v2 r2 v1 r1 v0 r0 => ⟨(a0, a1, a2, a3, ()), rfl, v0, _, rfl, r0, v1, _, rfl, r1, v2, _, rfl, r2, v3, _, rfl, r3, rfl⟩)) (we_bo1 (we_call C G_law_even_side (by decide) (wa_cons (R := (tLst (tT2 tInt tInt)).rl) (we_var C 0) fun a0 => wa_cons (R := tInt.rl) we_int fun a1 => wa_cons (R := tInt.rl) (we_var C 1) fun a2 => wa_cons (R := (tLst tInt).rl) (we_var C 2) fun a3 => wa_nil fun K F H s v3 r3 v2 r2 v1 r1 v0 r0 => ⟨(a0, a1, a2, a3, ()), rfl, v0, _, rfl, r0, v1, _, rfl, r1, v2, _, rfl, r2, v3, _, rfl, r3, rfl⟩)))) (by first | (simp only [pure_b, bind_as]; done) | rfl)) (fun _ => rfl))⟩)
def b_law_even_sideT (edges : List (Int × Int)) (side : Int) (count : Int) (hues : List Int) : Out Bool :=
(pure ([] : List (Int × (List Int)))) >>= fun counts =>
((pure (upto edges.length)) >>= fun xs19 => forO (fun (s1 : (List (Int × (List Int)))) (x2 : Int) =>
(((idx edges x2) >>= fun t3 => pure [t3.1, t3.2]) >>= fun t4 => idx t4 side) >>= fun number =>
((pure (!(aget s1 number).isSome)) >>= fun c5 => if c5 = true then (
(repO [0] count) >>= fun a7 => (pure (s1, fun b => b)) >>= fun r9 => (pure number) >>= fun j8 => aputO r9.1 j8 a7 >>= fun l10 =>
pure (r9.2 l10))
else (
pure s1)) >>= fun s6 =>
(subD (s6, fun b => b) number) >>= fun r11 =>
(((idx hues x2) >>= fun t17 => idx r11.1 t17) >>= fun t18 => pure (t18 + 1)) >>= fun a13 => (pure (r11.1, fun b => b)) >>= fun r15 => (idx hues x2) >>= fun j14 => setO r15.1 j14 a13 >>= fun l16 =>
pure (r11.2 (r15.2 l16))) xs19 counts) >>= fun s20 =>
((pure (s20.map Prod.fst)) >>= fun xs28 => forR (fun (s21 : Unit) (x22 : Int) =>
(agetO s20 x22) >>= fun row =>
(((maxL row) >>= fun t23 => (minL row) >>= fun t24 => pure (t23 - t24)) >>= fun t25 => pure (decide (1 < t25))) >>= fun c26 => if c26 = true then (
(pure false) >>= fun r27 => pure (Step.rt r27))
else (
pure (Step.nx ()))) xs28 ()) >>= fun t31 => (match t31 with
| Step.rt r30 => pure r30
| Step.nx s29 =>
pure true)
theorem x_law_even_sideT : ∃ g : (List (Int × Int)) → Int → Int → (List Int) → Out Bool, g = b_law_even_sideT := ⟨_, rfl⟩
def m_law_even_sideT : (List (Int × Int)) → Int → Int → (List Int) → Out Bool := Classical.choose x_law_even_sideT
theorem m_law_even_sideT_eq : m_law_even_sideT = b_law_even_sideT := Classical.choose_spec x_law_even_sideT
abbrev P_law_even_sideT : Par ((List (Int × Int)) × Int × Int × (List Int) × Unit) := (pC (tLst (tT2 tInt tInt)) (pC tInt (pC tInt (pC (tTup tInt) pN))))
abbrev u_law_even_sideT (i : (List (Int × Int)) × Int × Int × (List Int) × Unit) : Out Bool := m_law_even_sideT i.1 i.2.1 i.2.2.1 i.2.2.2.1
theorem sc_law_even_sideT : FnScope ["edges", "side", "count", "hues", "counts", "k", "number", "row"] ["edges", "side", "count", "hues"] (defScope s_law_even_side) := ⟨rfl, rfl, rfl, by decide +kernel, rfl, by decide +kernel, by decide +kernel⟩
abbrev sp_law_even_sideT (K : PySem.W.Frag) : Sp := Sps P_law_even_sideT u_law_even_sideT tBool K
theorem ok_law_even_sideT {fd : FuncData} (Z : Fre mg) (F : FunD K "_law_even_side" "_law_even_side" (defArgs s_law_even_side) (defBody s_law_even_side) (defScope s_law_even_side) [] [] (He.fAd K ("_law_even_side", none)) fd) (g : mg "_law_even_side" = some (.ref (He.fAd K ("_law_even_side", none))))   : Def Pr w K mg base 1 "_law_even_side" ["edges", "side", "count", "hues"] [] (sp_law_even_sideT K) := by
  refine ⟨_, fd, [], fn_body F sc_law_even_sideT rfl (by decide) (fun X E B i e1 e2 e3 e4 e5 hW C => ?_), g, F.kp, F.bindsN (fun _ _ _ _ _ _ us hl => match us, hl with | [_, _, _, _], _ => rfl), .nil⟩
  subst e1 e2 e3 e4 e5
  obtain ⟨edges, side, count, hues, _⟩ := i
  show WS X E B [iS (tLst (tT2 tInt tInt)) edges, iS tInt side, iS tInt count, iS (tTup tInt) hues, .any, .any, .any, .any] [_] (m_law_even_sideT edges side count hues) _
  rw [m_law_even_sideT_eq]
  unfold b_law_even_sideT
  exact ws_setO C 4 (WO.cast (m' := pure ([] : List (Int × (List Int)))) (wo_dicI (O := (oLst tInt))) (by first | rfl | simp only [bind_as, pure_b])) (fun counts =>
ws_seq (Δ := (fun (s1 : (List (Int × (List Int)))) => [iS (tLst (tT2 tInt tInt)) edges, iS tInt side, iS tInt count, iS (tTup tInt) hues, .on _ (oDi kdI (oLst tInt)) s1, .any, .any, .any])) (w1_for C (WI.cast (m' := pure (upto edges.length)) (wi_rlen C Z rl_len (WE.rd (we_var C 0))) (by first | rfl | simp only [bind_as, pure_b])) (wg_name C 5) (Δ := (fun (s1 : (List (Int × (List Int)))) => [iS (tLst (tT2 tInt tInt)) edges, iS tInt side, iS tInt count, iS (tTup tInt) hues, .on _ (oDi kdI (oLst tInt)) s1, .any, .any, .any])) (s0 := counts) (Weak.same (Weak.same (Weak.same (Weak.same (Weak.same (Weak.same (Weak.same (Weak.same Weak.nil)))))))) (by exact (fun s1 x2 =>
ws_set C 6 (WE.cast (m' := ((idx edges x2) >>= fun t3 => pure [t3.1, t3.2]) >>= fun t4 => idx t4 side) (we_ixT (WE.map (we_ixL (WE.rd (we_var C 0)) (we_var C 5)) (fun (a : Int × Int) => [a.1, a.2]) t2_tup) (we_var C 1)) (by first | rfl | simp only [bind_as, pure_b])) (fun number =>
ws_seq (Δ := (fun (s6 : (List (Int × (List Int)))) => [iS (tLst (tT2 tInt tInt)) edges, iS tInt side, iS tInt count, iS (tTup tInt) hues, .on _ (oDi kdI (oLst tInt)) s6, iS tInt x2, iS tInt number, .any])) (w1_if (WT.cast (m' := pure (!(aget s1 number).isSome)) (wt_vnin (KD := kdI) C (we_var C 6) (we_vw C 4)) (by first | rfl | simp only [bind_as, pure_b])) (
ws_lput (KD := kdI) C 4 (WO.cast (m' := repO [0] count) (wo_rep (WO.rh (wo_lst (wal_cons we_int wal_nil))) (we_var C 2)) (by first | rfl | simp only [bind_as, pure_b])) (WL.cast (m' := pure (s1, fun b => b)) (wl_var C 4) (by first | rfl | simp only [bind_as, pure_b])) (WE.cast (m' := pure number) (we_var C 6) (by first | rfl | simp only [bind_as, pure_b])) (fun r9 l10 =>
ws_fin rfl (Weak.same (Weak.same (Weak.same (Weak.same (Weak.same (Weak.same (Weak.same (Weak.same Weak.nil)))))))))) (
ws_fin rfl (Weak.same (Weak.same (Weak.same (Weak.same (Weak.same (Weak.same (Weak.same (Weak.same Weak.nil)))))))))) (fun s6 =>
ws_focus C 4 7 (WL.cast (m' := subD (s6, fun b => b) number) (wl_dget (KD := kdI) C (wl_var C 4) (we_var C 6)) (by first | rfl | simp only [bind_as, pure_b])) (fun r11 w12 =>
ws_lset 7 (WE.cast (m' := ((idx hues x2) >>= fun t17 => idx r11.1 t17) >>= fun t18 => pure (t18 + 1)) (we_add (we_ixL (WE.hr (WE.vl (we_vwi C 7))) (we_ixT (we_var C 3) (we_var C 5))) we_int) (by first | rfl | simp only [bind_as, pure_b])) (WL.cast (m' := pure (r11.1, fun b => b)) (wl_is C 7) (by first | rfl | simp only [bind_as, pure_b])) (WE.cast (m' := idx hues x2) (we_ixT (we_var C 3) (we_var C 5)) (by first | rfl | simp only [bind_as, pure_b])) (fun r15 l16 =>
ws_unfocus 4 7 rfl rfl (
ws_fin rfl (Weak.same (Weak.same (Weak.same (Weak.same (Weak.same (Weak.any (Weak.any (Weak.same Weak.nil)))))))))))))))) (fun s20 =>
ws_fzd 4 (fz_lst _) mut_I hW rfl (
ws_cons (D1 := DR (fun (s21 : Unit) => [iS (tLst (tT2 tInt tInt)) edges, iS tInt side, iS tInt count, iS (tTup tInt) hues, iS (tDi kdI (tLst tInt)) s20, .any, .any, .any]) (fun b => .rt _ tBool b)) (w1_forR C (WI.cast (m' := pure (s20.map Prod.fst)) (wi_keys (we_var C 4)) (by first | rfl | simp only [bind_as, pure_b])) (wg_name C 6) (Δ := (fun (s21 : Unit) => [iS (tLst (tT2 tInt tInt)) edges, iS tInt side, iS tInt count, iS (tTup tInt) hues, iS (tDi kdI (tLst tInt)) s20, .any, .any, .any])) (s0 := ()) (Rt := (fun b => .rt _ tBool b)) (Weak.same (Weak.same (Weak.same (Weak.same (Weak.same (Weak.same (Weak.same (Weak.same Weak.nil)))))))) (by exact (fun s21 x22 =>
ws_set C 7 (WE.cast (m' := agetO s20 x22) (we_fdget (KD := kdI) C (we_var C 4) (we_var C 6)) (by first | rfl | simp only [bind_as, pure_b])) (fun row =>
ws_if (WT.cast (m' := ((maxL row) >>= fun t23 => (minL row) >>= fun t24 => pure (t23 - t24)) >>= fun t25 => pure (decide (1 < t25))) (wt_gt (we_sub (we_maxL C Z (WE.rd (we_var C 7))) (we_minL C Z (WE.rd (we_var C 7)))) we_int) (by first | rfl | simp only [bind_as, pure_b])) (
ws_ret (g := Step.rt) (WE.cast (m' := pure false) we_bl (by first | rfl | simp only [bind_as, pure_b])) (fun _ => rfl)) (
ws_pop (ws_fin rfl (Weak.same (Weak.same (Weak.same (Weak.same (Weak.same (Weak.same (Weak.any (Weak.any Weak.nil))))))))))))) (fun r => .inl ⟨_, _, _, rfl⟩)) (fun t31 => match t31 with
| Step.rt r30 => .inr ⟨trivial, r30, rfl, rfl⟩
| Step.nx s29 => .inl ⟨_, rfl, (
ws_ret0 (WE.cast (m' := pure true) we_bl (by first | rfl | simp only [bind_as, pure_b])) (fun _ => rfl))⟩))))
def b_law_evenT (edges : List (Int × Int)) (count : Int) (hues : List Int) : Out Bool :=
((pure hues) >>= fun xs5 => forR (fun (s1 : Unit) (x2 : Int) =>
(if (decide (x2 < 0)) = true then pure true else pure (decide (count ≤ x2))) >>= fun c3 => if c3 = true then (
(pure false) >>= fun r4 => pure (Step.rt r4))
else (
pure (Step.nx ()))) xs5 ()) >>= fun t9 => (match t9 with
| Step.rt r8 => pure r8
| Step.nx s6 =>
(m_law_even_sideT edges 0 count hues) >>= fun t7 => if t7 = true then m_law_even_sideT edges 1 count hues else pure false)
theorem x_law_evenT : ∃ g : (List (Int × Int)) → Int → (List Int) → Out Bool, g = b_law_evenT := ⟨_, rfl⟩
def m_law_evenT : (List (Int × Int)) → Int → (List Int) → Out Bool := Classical.choose x_law_evenT
theorem m_law_evenT_eq : m_law_evenT = b_law_evenT := Classical.choose_spec x_law_evenT
abbrev P_law_evenT : Par ((List (Int × Int)) × Int × (List Int) × Unit) := (pC (tLst (tT2 tInt tInt)) (pC tInt (pC (tTup tInt) pN)))
abbrev u_law_evenT (i : (List (Int × Int)) × Int × (List Int) × Unit) : Out Bool := m_law_evenT i.1 i.2.1 i.2.2.1
theorem sc_law_evenT : FnScope ["edges", "count", "hues", "hue"] ["edges", "count", "hues"] (defScope s_law_even) := ⟨rfl, rfl, rfl, by decide +kernel, rfl, by decide +kernel, by decide +kernel⟩
abbrev sp_law_evenT (K : PySem.W.Frag) : Sp := Sps P_law_evenT u_law_evenT tBool K
theorem ok_law_evenT {fd : FuncData} (Z : Fre mg) (F : FunD K "_law_even" "_law_even" (defArgs s_law_even) (defBody s_law_even) (defScope s_law_even) [] [] (He.fAd K ("_law_even", none)) fd) (g : mg "_law_even" = some (.ref (He.fAd K ("_law_even", none)))) (G_law_even_sideT : Def Pr w K mg base 1 "_law_even_side" ["edges", "side", "count", "hues"] [] (sp_law_even_sideT K))  : Def Pr w K mg base 2 "_law_even" ["edges", "count", "hues"] [] (sp_law_evenT K) := by
  refine ⟨_, fd, [], fn_body F sc_law_evenT rfl (by decide) (fun X E B i e1 e2 e3 e4 e5 hW C => ?_), g, F.kp, F.bindsN (fun _ _ _ _ _ _ us hl => match us, hl with | [_, _, _], _ => rfl), .nil⟩
  subst e1 e2 e3 e4 e5
  obtain ⟨edges, count, hues, _⟩ := i
  show WS X E B [iS (tLst (tT2 tInt tInt)) edges, iS tInt count, iS (tTup tInt) hues, .any] [_] (m_law_evenT edges count hues) _
  rw [m_law_evenT_eq]
  unfold b_law_evenT
  exact ws_cons (D1 := DR (fun (s1 : Unit) => [iS (tLst (tT2 tInt tInt)) edges, iS tInt count, iS (tTup tInt) hues, .any]) (fun b => .rt _ tBool b)) (w1_forR C (WI.cast (m' := pure hues) (wi_tup (we_var C 2)) (by first | rfl | simp only [bind_as, pure_b])) (wg_name C 3) (Δ := (fun (s1 : Unit) => [iS (tLst (tT2 tInt tInt)) edges, iS tInt count, iS (tTup tInt) hues, .any])) (s0 := ()) (Rt := (fun b => .rt _ tBool b)) (Weak.same (Weak.same (Weak.same (Weak.same Weak.nil)))) (by exact (fun s1 x2 =>
ws_if (WT.cast (m' := if (decide (x2 < 0)) = true then pure true else pure (decide (count ≤ x2))) (wt_b (wb_or (wt_lt (we_var C 3) we_int) (wb_or1 (wt_ge (we_var C 3) (we_var C 1))))) (by first | rfl | simp only [bind_as, pure_b])) (
ws_ret (g := Step.rt) (WE.cast (m' := pure false) we_bl (by first | rfl | simp only [bind_as, pure_b])) (fun _ => rfl)) (
ws_pop (ws_fin rfl (Weak.same (Weak.same (Weak.same (Weak.any Weak.nil)))))))) (fun r => .inl ⟨_, _, _, rfl⟩)) (fun t9 => match t9 with
| Step.rt r8 => .inr ⟨trivial, r8, rfl, rfl⟩
| Step.nx s6 => .inl ⟨_, rfl, (
ws_ret0 (WE.cast (m' := (m_law_even_sideT edges 0 count hues) >>= fun t7 => if t7 = true then m_law_even_sideT edges 1 count hues else pure false) (we_and (we_call C G_law_even_sideT (by decide) (wa_cons (R := (tLst (tT2 tInt tInt)).rl) (we_var C 0) fun a0 => wa_cons (R := tInt.rl) we_int fun a1 => wa_cons (R := tInt.rl) (we_var C 1) fun a2 => wa_cons (R := (tTup tInt).rl) (we_var C 2) fun a3 => wa_nil fun K F H s v3 r3 v2 r2 v1 r1 v0 r0 => ⟨(a0, a1, a2, a3, ()), rfl, v0, _, rfl, r0, v1, _, rfl, r1, v2, _, rfl, r2, v3, _, rfl, r3, rfl⟩)) (we_bo1 (we_call C G_law_even_sideT (by decide) (wa_cons (R := (tLst (tT2 tInt tInt)).rl) (we_var C 0) fun a0 => wa_cons (R := tInt.rl) we_int fun a1 => wa_cons (R := tInt.rl) (we_var C 1) fun a2 => wa_cons (R := (tTup tInt).rl) (we_var C 2) fun a3 => wa_nil fun K F H s v3 r3 v2 r2 v1 r1 v0 r0 => ⟨(a0, a1, a2, a3, ()), rfl, v0, _, rfl, r0, v1, _, rfl, r1, v2, _, rfl, r2, v3, _, rfl, r3, rfl⟩)))) (by first | (simp only [pure_b, bind_as]; done) | rfl)) (fun _ => rfl))⟩)
def b_hues_even (edges : List (List Int)) (count : Int) (hues : List Int) : Out Bool :=
((mapO (fun hue1 => (if decide (0 ≤ hue1) = true then pure (decide (hue1 < count)) else pure false) >>= fun t2 => pure (!t2)) hues) >>= fun t4 => pure (t4.any id)) >>= fun c5 => if c5 = true then (
pure false)
else (
((pure (upto 2)) >>= fun xs28 => forR (fun (s6 : Unit) (x7 : Int) =>
((pure edges) >>= fun xs9 => dcO (fun ends8 => idx ends8 x7) (fun ends8 => repO [0] count) xs9 []) >>= fun counts =>
((pure (List.zip edges hues)) >>= fun xs18 => forO (fun (s10 : (List (Int × (List Int)))) (x11 : (List Int) × Int) =>
((idx x11.1 x7) >>= fun t12 => subD (s10, fun b => b) t12) >>= fun r13 => (pure x11.2) >>= fun j14 => idx r13.1 j14 >>= fun x15 => (pure 1) >>= fun y16 => setO r13.1 j14 (x15 + y16) >>= fun l17 =>
pure (r13.2 l17)) xs18 counts) >>= fun s19 =>
((mapO (fun row20 => ((maxL row20) >>= fun t21 => (minL row20) >>= fun t22 => pure (t21 - t22)) >>= fun t23 => pure (decide (1 < t23))) (s19.map Prod.snd)) >>= fun t25 => pure (t25.any id)) >>= fun c26 => if c26 = true then (
(pure false) >>= fun r27 => pure (Step.rt r27))
else (
pure (Step.nx ()))) xs28 ()) >>= fun t31 => (match t31 with
| Step.rt r30 => pure r30
| Step.nx s29 =>
pure true))
theorem x_hues_even : ∃ g : (List (List Int)) → Int → (List Int) → Out Bool, g = b_hues_even := ⟨_, rfl⟩
def m_hues_even : (List (List Int)) → Int → (List Int) → Out Bool := Classical.choose x_hues_even
theorem m_hues_even_eq : m_hues_even = b_hues_even := Classical.choose_spec x_hues_even
abbrev P_hues_even : Par ((List (List Int)) × Int × (List Int) × Unit) := (pC (tLst (tLst tInt)) (pC tInt (pC (tLst tInt) pN)))
abbrev u_hues_even (i : (List (List Int)) × Int × (List Int) × Unit) : Out Bool := m_hues_even i.1 i.2.1 i.2.2.1
theorem sc_hues_even : FnScope ["edges", "count", "hues", "side", "counts", "ends", "hue", "row"] ["edges", "count", "hues"] (defScope s_hues_even) := ⟨rfl, rfl, rfl, by decide +kernel, rfl, by decide +kernel, by decide +kernel⟩
abbrev sp_hues_even (K : PySem.W.Frag) : Sp := Sps P_hues_even u_hues_even tBool K
theorem ok_hues_even {fd : FuncData} (Z : Fre mg) (F : FunD K "hues_even" "hues_even" (defArgs s_hues_even) (defBody s_hues_even) (defScope s_hues_even) [] [] (He.fAd K ("hues_even", none)) fd) (g : mg "hues_even" = some (.ref (He.fAd K ("hues_even", none))))   : Def Pr w K mg base 1 "hues_even" ["edges", "count", "hues"] [] (sp_hues_even K) := by
  refine ⟨_, fd, [], fn_body F sc_hues_even rfl (by decide) (fun X E B i e1 e2 e3 e4 e5 hW C => ?_), g, F.kp, F.bindsN (fun _ _ _ _ _ _ us hl => match us, hl with | [_, _, _], _ => rfl), .nil⟩
  subst e1 e2 e3 e4 e5
  obtain ⟨edges, count, hues, _⟩ := i
  show WS X E B [iS (tLst (tLst tInt)) edges, iS tInt count, iS (tLst tInt) hues, .any, .any, .any, .any, .any] [_] (m_hues_even edges count hues) _
  rw [m_hues_even_eq]
  unfold b_hues_even
  exact ws_if (WT.cast (m' := (mapO (fun hue1 => (if decide (0 ≤ hue1) = true then pure (decide (hue1 < count)) else pure false) >>= fun t2 => pure (!t2)) hues) >>= fun t4 => pure (t4.any id)) (wt_val (we_any C Z (WO.rd (wo_lc C [("hue", 6)] (by decide +kernel) (WI.cast (m' := pure hues) (wi_lst (we_var C 2)) (by first | rfl | simp only [bind_as, pure_b])) (ix := [6]) (by decide) (fun s_ H_ Cc_ cl_ fp_ C => (wg_name C 6)) (fun s_ H_ Cc_ cl_ fp_ hue1 C => WE.cast (m' := (if decide (0 ≤ hue1) = true then pure (decide (hue1 < count)) else pure false) >>= fun t2 => pure (!t2)) (we_not (we_chain op_le op_lt we_int (we_var C 6) (we_var C 1))) (by first | rfl | simp only [bind_as, pure_b])))))) (by first | rfl | simp only [bind_as, pure_b])) (
ws_ret0 (WE.cast (m' := pure false) we_bl (by first | rfl | simp only [bind_as, pure_b])) (fun _ => rfl)) (
ws_pop (ws_cons (D1 := DR (fun (s6 : Unit) => [iS (tLst (tLst tInt)) edges, iS tInt count, iS (tLst tInt) hues, .any, .any, .any, .any, .any]) (fun b => .rt _ tBool b)) (w1_forR C (WI.cast (m' := pure (upto 2)) (WI.cast (wi_range C Z we_int) rfl) (by first | rfl | simp only [bind_as, pure_b])) (wg_name C 3) (Δ := (fun (s6 : Unit) => [iS (tLst (tLst tInt)) edges, iS tInt count, iS (tLst tInt) hues, .any, .any, .any, .any, .any])) (s0 := ()) (Rt := (fun b => .rt _ tBool b)) (Weak.same (Weak.same (Weak.same (Weak.same (Weak.same (Weak.same (Weak.same (Weak.same Weak.nil)))))))) (by exact (fun s6 x7 =>
ws_dcI (f := _) C 4 [("ends", 5)] (by decide +kernel) (WI.cast (m' := pure edges) (wi_lst (we_var C 0)) (by first | rfl | simp only [bind_as, pure_b])) (ix := [5]) (by decide) (fun s_ H_ Cc_ cl_ fp_ C => (wg_name C 5)) (fun s_ H_ Cc_ cl_ fp_ ends8 C => WE.cast (m' := idx ends8 x7) (we_ixL (WE.rd (we_var C 5)) (we_var C 3)) (by first | rfl | simp only [bind_as, pure_b])) (fun s_ H_ Cc_ cl_ fp_ ends8 C => WO.cast (m' := repO [0] count) (wo_rep (WO.rh (wo_lst (wal_cons we_int wal_nil))) (we_var C 1)) (by first | rfl | simp only [bind_as, pure_b])) (fun counts =>
ws_seq (Δ := (fun (s10 : (List (Int × (List Int)))) => [iS (tLst (tLst tInt)) edges, iS tInt count, iS (tLst tInt) hues, iS tInt x7, .on _ (oDi kdI (oLst tInt)) s10, .any, .any, .any])) (w1_for C (WI.cast (m' := pure (List.zip edges hues)) (wi_zipL C Z (we_var C 0) (we_var C 2)) (by first | rfl | simp only [bind_as, pure_b])) (wg_t2 C (wg_name C 5) (wg_name C 6)) (Δ := (fun (s10 : (List (Int × (List Int)))) => [iS (tLst (tLst tInt)) edges, iS tInt count, iS (tLst tInt) hues, iS tInt x7, .on _ (oDi kdI (oLst tInt)) s10, .any, .any, .any])) (s0 := counts) (Weak.same (Weak.same (Weak.same (Weak.same (Weak.same (Weak.same (Weak.same (Weak.same Weak.nil)))))))) (by exact (fun s10 x11 =>
ws_augS 4 (g := fun x y => x + y) ip_add (WL.cast (m' := (idx x11.1 x7) >>= fun t12 => subD (s10, fun b => b) t12) (wl_dget (KD := kdI) C (wl_var C 4) (we_ixL (WE.rd (we_var C 5)) (we_var C 3))) (by first | rfl | simp only [bind_as, pure_b])) (WE.cast (m' := pure x11.2) (we_var C 6) (by first | rfl | simp only [bind_as, pure_b])) (WE.cast (m' := pure 1) we_int (by first | rfl | simp only [bind_as, pure_b])) (fun r13 l17 =>
ws_fin rfl (Weak.same (Weak.same (Weak.same (Weak.same (Weak.same (Weak.any (Weak.any (Weak.same Weak.nil)))))))))))) (fun s19 =>
ws_fzd 4 (fz_lst _) mut_I hW rfl (
ws_if (WT.cast (m' := (mapO (fun row20 => ((maxL row20) >>= fun t21 => (minL row20) >>= fun t22 => pure (t21 - t22)) >>= fun t23 => pure (decide (1 < t23))) (s19.map Prod.snd)) >>= fun t25 => pure (t25.any id)) (wt_val (we_any C Z (WO.rd (wo_lc C [("row", 7)] (by decide +kernel) (WI.cast (m' := pure (s19.map Prod.snd)) (wi_lst (WO.fz (wo_listVals C Z (we_var C 4)) (fz_lst _))) (by first | rfl | simp only [bind_as, pure_b])) (ix := [7]) (by decide) (fun s_ H_ Cc_ cl_ fp_ C => (wg_name C 7)) (fun s_ H_ Cc_ cl_ fp_ row20 C => WE.cast (m' := ((maxL row20) >>= fun t21 => (minL row20) >>= fun t22 => pure (t21 - t22)) >>= fun t23 => pure (decide (1 < t23))) (we_gt (we_sub (we_maxL C Z (WE.rd (we_var C 7))) (we_minL C Z (WE.rd (we_var C 7)))) we_int) (by first | rfl | simp only [bind_as, pure_b])))))) (by first | rfl | simp only [bind_as, pure_b])) (
ws_ret (g := Step.rt) (WE.cast (m' := pure false) we_bl (by first | rfl | simp only [bind_as, pure_b])) (fun _ => rfl)) (
ws_pop (ws_fin rfl (Weak.same (Weak.same (Weak.same (Weak.any (Weak.any (Weak.same (Weak.same (Weak.same Weak.nil))))))))))))))) (fun r => .inl ⟨_, _, _, rfl⟩)) (fun t31 => match t31 with
| Step.rt r30 => .inr ⟨trivial, r30, rfl, rfl⟩
| Step.nx s29 => .inl ⟨_, rfl, (
ws_ret0 (WE.cast (m' := pure true) we_bl (by first | rfl | simp only [bind_as, pure_b])) (fun _ => rfl))⟩)))
def b_hues_evenT (edges : List (Int × Int)) (count : Int) (hues : List Int) : Out Bool :=
((mapO (fun hue1 => (if decide (0 ≤ hue1) = true then pure (decide (hue1 < count)) else pure false) >>= fun t2 => pure (!t2)) hues) >>= fun t4 => pure (t4.any id)) >>= fun c5 => if c5 = true then (
pure false)
else (
((pure (upto 2)) >>= fun xs28 => forR (fun (s6 : Unit) (x7 : Int) =>
((pure edges) >>= fun xs9 => dcO (fun ends8 => idx [ends8.1, ends8.2] x7) (fun ends8 => repO [0] count) xs9 []) >>= fun counts =>
((pure (List.zip edges hues)) >>= fun xs18 => forO (fun (s10 : (List (Int × (List Int)))) (x11 : (Int × Int) × Int) =>
((idx [x11.1.1, x11.1.2] x7) >>= fun t12 => subD (s10, fun b => b) t12) >>= fun r13 => (pure x11.2) >>= fun j14 => idx r13.1 j14 >>= fun x15 => (pure 1) >>= fun y16 => setO r13.1 j14 (x15 + y16) >>= fun l17 =>
pure (r13.2 l17)) xs18 counts) >>= fun s19 =>
((mapO (fun row20 => ((maxL row20) >>= fun t21 => (minL row20) >>= fun t22 => pure (t21 - t22)) >>= fun t23 => pure (decide (1 < t23))) (s19.map Prod.snd)) >>= fun t25 => pure (t25.any id)) >>= fun c26 => if c26 = true then (
(pure false) >>= fun r27 => pure (Step.rt r27))
else (
pure (Step.nx ()))) xs28 ()) >>= fun t31 => (match t31 with
| Step.rt r30 => pure r30
| Step.nx s29 =>
pure true))
theorem x_hues_evenT : ∃ g : (List (Int × Int)) → Int → (List Int) → Out Bool, g = b_hues_evenT := ⟨_, rfl⟩
def m_hues_evenT : (List (Int × Int)) → Int → (List Int) → Out Bool := Classical.choose x_hues_evenT
theorem m_hues_evenT_eq : m_hues_evenT = b_hues_evenT := Classical.choose_spec x_hues_evenT
abbrev P_hues_evenT : Par ((List (Int × Int)) × Int × (List Int) × Unit) := (pC (tTup (tT2 tInt tInt)) (pC tInt (pC (tTup tInt) pN)))
abbrev u_hues_evenT (i : (List (Int × Int)) × Int × (List Int) × Unit) : Out Bool := m_hues_evenT i.1 i.2.1 i.2.2.1
theorem sc_hues_evenT : FnScope ["edges", "count", "hues", "side", "counts", "ends", "hue", "row"] ["edges", "count", "hues"] (defScope s_hues_even) := ⟨rfl, rfl, rfl, by decide +kernel, rfl, by decide +kernel, by decide +kernel⟩
abbrev sp_hues_evenT (K : PySem.W.Frag) : Sp := Sps P_hues_evenT u_hues_evenT tBool K
theorem ok_hues_evenT {fd : FuncData} (Z : Fre mg) (F : FunD K "hues_even" "hues_even" (defArgs s_hues_even) (defBody s_hues_even) (defScope s_hues_even) [] [] (He.fAd K ("hues_even", none)) fd) (g : mg "hues_even" = some (.ref (He.fAd K ("hues_even", none))))   : Def Pr w K mg base 1 "hues_even" ["edges", "count", "hues"] [] (sp_hues_evenT K) := by
  refine ⟨_, fd, [], fn_body F sc_hues_evenT rfl (by decide) (fun X E B i e1 e2 e3 e4 e5 hW C => ?_), g, F.kp, F.bindsN (fun _ _ _ _ _ _ us hl => match us, hl with | [_, _, _], _ => rfl), .nil⟩
  subst e1 e2 e3 e4 e5
  obtain ⟨edges, count, hues, _⟩ := i
  show WS X E B [iS (tTup (tT2 tInt tInt)) edges, iS tInt count, iS (tTup tInt) hues, .any, .any, .any, .any, .any] [_] (m_hues_evenT edges count hues) _
  rw [m_hues_evenT_eq]
  unfold b_hues_evenT
  exact ws_if (WT.cast (m' := (mapO (fun hue1 => (if decide (0 ≤ hue1) = true then pure (decide (hue1 < count)) else pure false) >>= fun t2 => pure (!t2)) hues) >>= fun t4 => pure (t4.any id)) (wt_val (we_any C Z (WO.rd (wo_lc C [("hue", 6)] (by decide +kernel) (WI.cast (m' := pure hues) (wi_tup (we_var C 2)) (by first | rfl | simp only [bind_as, pure_b])) (ix := [6]) (by decide) (fun s_ H_ Cc_ cl_ fp_ C => (wg_name C 6)) (fun s_ H_ Cc_ cl_ fp_ hue1 C => WE.cast (m' := (if decide (0 ≤ hue1) = true then pure (decide (hue1 < count)) else pure false) >>= fun t2 => pure (!t2)) (we_not (we_chain op_le op_lt we_int (we_var C 6) (we_var C 1))) (by first | rfl | simp only [bind_as, pure_b])))))) (by first | rfl | simp only [bind_as, pure_b])) (
ws_ret0 (WE.cast (m' := pure false) we_bl (by first | rfl | simp only [bind_as, pure_b])) (fun _ => rfl)) (
ws_pop (ws_cons (D1 := DR (fun (s6 : Unit) => [iS (tTup (tT2 tInt tInt)) edges, iS tInt count, iS (tTup tInt) hues, .any, .any, .any, .any, .any]) (fun b => .rt _ tBool b)) (w1_forR C (WI.cast (m' := pure (upto 2)) (WI.cast (wi_range C Z we_int) rfl) (by first | rfl | simp only [bind_as, pure_b])) (wg_name C 3) (Δ := (fun (s6 : Unit) => [iS (tTup (tT2 tInt tInt)) edges, iS tInt count, iS (tTup tInt) hues, .any, .any, .any, .any, .any])) (s0 := ()) (Rt := (fun b => .rt _ tBool b)) (Weak.same (Weak.same (Weak.same (Weak.same (Weak.same (Weak.same (Weak.same (Weak.same Weak.nil)))))))) (by exact (fun s6 x7 =>
ws_dcI (f := _) C 4 [("ends", 5)] (by decide +kernel) (WI.cast (m' := pure edges) (wi_tup (we_var C 0)) (by first | rfl | simp only [bind_as, pure_b])) (ix := [5]) (by decide) (fun s_ H_ Cc_ cl_ fp_ C => (wg_name C 5)) (fun s_ H_ Cc_ cl_ fp_ ends8 C => WE.cast (m' := idx [ends8.1, ends8.2] x7) (we_ixT (WE.map (we_var C 5) (fun (a : Int × Int) => [a.1, a.2]) t2_tup) (we_var C 3)) (by first | rfl | simp only [bind_as, pure_b])) (fun s_ H_ Cc_ cl_ fp_ ends8 C => WO.cast (m' := repO [0] count) (wo_rep (WO.rh (wo_lst (wal_cons we_int wal_nil))) (we_var C 1)) (by first | rfl | simp only [bind_as, pure_b])) (fun counts =>
ws_seq (Δ := (fun (s10 : (List (Int × (List Int)))) => [iS (tTup (tT2 tInt tInt)) edges, iS tInt count, iS (tTup tInt) hues, iS tInt x7, .on _ (oDi kdI (oLst tInt)) s10, .any, .any, .any])) (w1_for C (WI.cast (m' := pure (List.zip edges hues)) (wi_zipT C Z (we_var C 0) (we_var C 2)) (by first | rfl | simp only [bind_as, pure_b])) (wg_t2 C (wg_name C 5) (wg_name C 6)) (Δ := (fun (s10 : (List (Int × (List Int)))) => [iS (tTup (tT2 tInt tInt)) edges, iS tInt count, iS (tTup tInt) hues, iS tInt x7, .on _ (oDi kdI (oLst tInt)) s10, .any, .any, .any])) (s0 := counts) (Weak.same (Weak.same (Weak.same (Weak.same (Weak.same (Weak.same (Weak.same (Weak.same Weak.nil)))))))) (by exact (fun s10 x11 =>
ws_augS 4 (g := fun x y => x + y) ip_add (WL.cast (m' := (idx [x11.1.1, x11.1.2] x7) >>= fun t12 => subD (s10, fun b => b) t12) (wl_dget (KD := kdI) C (wl_var C 4) (we_ixT (WE.map (we_var C 5) (fun (a : Int × Int) => [a.1, a.2]) t2_tup) (we_var C 3))) (by first | rfl | simp only [bind_as, pure_b])) (WE.cast (m' := pure x11.2) (we_var C 6) (by first | rfl | simp only [bind_as, pure_b])) (WE.cast (m' := pure 1) we_int (by first | rfl | simp only [bind_as, pure_b])) (fun r13 l17 =>
ws_fin rfl (Weak.same (Weak.same (Weak.same (Weak.same (Weak.same (Weak.any (Weak.any (Weak.same Weak.nil)))))))))))) (fun s19 =>
ws_fzd 4 (fz_lst _) mut_I hW rfl (
ws_if (WT.cast (m' := (mapO (fun row20 => ((maxL row20) >>= fun t21 => (minL row20) >>= fun t22 => pure (t21 - t22)) >>= fun t23 => pure (decide (1 < t23))) (s19.map Prod.snd)) >>= fun t25 => pure (t25.any id)) (wt_val (we_any C Z (WO.rd (wo_lc C [("row", 7)] (by decide +kernel) (WI.cast (m' := pure (s19.map Prod.snd)) (wi_lst (WO.fz (wo_listVals C Z (we_var C 4)) (fz_lst _))) (by first | rfl | simp only [bind_as, pure_b])) (ix := [7]) (by decide) (fun s_ H_ Cc_ cl_ fp_ C => (wg_name C 7)) (fun s_ H_ Cc_ cl_ fp_ row20 C => WE.cast (m' := ((maxL row20) >>= fun t21 => (minL row20) >>= fun t22 => pure (t21 - t22)) >>= fun t23 => pure (decide (1 < t23))) (we_gt (we_sub (we_maxL C Z (WE.rd (we_var C 7))) (we_minL C Z (WE.rd (we_var C 7)))) we_int) (by first | rfl | simp only [bind_as, pure_b])))))) (by first | rfl | simp only [bind_as, pure_b])) (
ws_ret (g := Step.rt) (WE.cast (m' := pure false) we_bl (by first | rfl | simp only [bind_as, pure_b])) (fun _ => rfl)) (
ws_pop (ws_fin rfl (Weak.same (Weak.same (Weak.same (Weak.any (Weak.any (Weak.same (Weak.same (Weak.same Weak.nil))))))))))))))) (fun r => .inl ⟨_, _, _, rfl⟩)) (fun t31 => match t31 with
| Step.rt r30 => .inr ⟨trivial, r30, rfl, rfl⟩
| Step.nx s29 => .inl ⟨_, rfl, (
ws_ret0 (WE.cast (m' := pure true) we_bl (by first | rfl | simp only [bind_as, pure_b])) (fun _ => rfl))⟩)))
def b_law_asked (edges : List (Int × Int)) (count : Int) (hues : List Int) (due : Bool) : Out Bool :=
((pure edges) >>= fun xs2 => mapO (fun edge1 => pure [edge1.1, edge1.2]) xs2) >>= fun given =>
(pure hues) >>= fun told =>
(m_hues_even given count told) >>= fun actual =>
(if (!true) = true then pure true else pure (!decide (actual = due))) >>= fun c3 => if c3 = true then (
pure false)
else (
((mapO (fun edge4 => pure [edge4.1, edge4.2]) edges) >>= fun t6 => pure (decide (given = t6))) >>= fun t7 => if t7 = true then pure (decide (told = hues)) else pure false)
theorem x_law_asked : ∃ g : (List (Int × Int)) → Int → (List Int) → Bool → Out Bool, g = b_law_asked := ⟨_, rfl⟩
def m_law_asked : (List (Int × Int)) → Int → (List Int) → Bool → Out Bool := Classical.choose x_law_asked
theorem m_law_asked_eq : m_law_asked = b_law_asked := Classical.choose_spec x_law_asked
abbrev P_law_asked : Par ((List (Int × Int)) × Int × (List Int) × Bool × Unit) := (pC (tLst (tT2 tInt tInt)) (pC tInt (pC (tLst tInt) (pC tBool pN))))
abbrev u_law_asked (i : (List (Int × Int)) × Int × (List Int) × Bool × Unit) : Out Bool := m_law_asked i.1 i.2.1 i.2.2.1 i.2.2.2.1
theorem sc_law_asked : FnScope ["edges", "count", "hues", "due", "given", "told", "actual", "edge"] ["edges", "count", "hues", "due"] (defScope s_law_asked) := ⟨rfl, rfl, rfl, by decide +kernel, rfl, by decide +kernel, by decide +kernel⟩
abbrev sp_law_asked (K : PySem.W.Frag) : Sp := Sps P_law_asked u_law_asked tBool K
theorem ok_law_asked {fd : FuncData} (Z : Fre mg) (F : FunD K "_law_asked" "_law_asked" (defArgs s_law_asked) (defBody s_law_asked) (defScope s_law_asked) [] [] (He.fAd K ("_law_asked", none)) fd) (g : mg "_law_asked" = some (.ref (He.fAd K ("_law_asked", none)))) (G_hues_even : Def Pr w K mg base 1 "hues_even" ["edges", "count", "hues"] [] (sp_hues_even K))  : Def Pr w K mg base 2 "_law_asked" ["edges", "count", "hues", "due"] [] (sp_law_asked K) := by
  refine ⟨_, fd, [], fn_body F sc_law_asked rfl (by decide) (fun X E B i e1 e2 e3 e4 e5 hW C => ?_), g, F.kp, F.bindsN (fun _ _ _ _ _ _ us hl => match us, hl with | [_, _, _, _], _ => rfl), .nil⟩
  subst e1 e2 e3 e4 e5
  obtain ⟨edges, count, hues, due, _⟩ := i
  show WS X E B [iS (tLst (tT2 tInt tInt)) edges, iS tInt count, iS (tLst tInt) hues, iS tBool due, .any, .any, .any, .any] [_] (m_law_asked edges count hues due) _
  rw [m_law_asked_eq]
  unfold b_law_asked
  exact ws_lc (f := _) C 4 [("edge", 7)] (by decide +kernel) (WI.cast (m' := pure edges) (wi_lst (we_var C 0)) (by first | rfl | simp only [bind_as, pure_b])) (ix := [7]) (by decide) (fun s_ H_ Cc_ cl_ fp_ C => (wg_name C 7)) (fun s_ H_ Cc_ cl_ fp_ edge1 C => WE.cast (m' := pure [edge1.1, edge1.2]) (WO.fz (wo_listT C Z (WE.map (we_var C 7) (fun (a : Int × Int) => [a.1, a.2]) t2_tup)) (fz_lst _)) (by first | rfl | simp only [bind_as, pure_b])) (fun given => ws_fz 4 (fz_lst _) hW rfl (
ws_set C 5 (WE.cast (m' := pure hues) (WO.fz (wo_list C Z (WE.rd (we_var C 2))) (fz_lst _)) (by first | rfl | simp only [bind_as, pure_b])) (fun told =>
ws_set C 6 (WE.cast (m' := m_hues_even given count told) (we_call C G_hues_even (by decide) (wa_cons (R := (tLst (tLst tInt)).rl) (we_var C 4) fun a0 => wa_cons (R := tInt.rl) (we_var C 1) fun a1 => wa_cons (R := (tLst tInt).rl) (we_var C 5) fun a2 => wa_nil fun K F H s v2 r2 v1 r1 v0 r0 => ⟨(a0, a1, a2, ()), rfl, v0, _, rfl, r0, v1, _, rfl, r1, v2, _, rfl, r2, rfl⟩)) (by first | (simp only [pure_b, bind_as]; done) | rfl)) (fun actual =>
ws_if (WT.cast (m' := if (!true) = true then pure true else pure (!decide (actual = due))) (wt_b (wb_or (wt_not (wt_val (we_isi C Z (cn := "bool") (fun _ => true) ty_bool (fun _ => by decide +kernel) (we_var C 6) Z.bool (by decide +kernel)))) (wb_or1 (wt_ne eqs_bool (we_var C 6) (we_var C 3))))) (by first | rfl | simp only [bind_as, pure_b])) (
ws_ret0 (WE.cast (m' := pure false) we_bl (by first | rfl | simp only [bind_as, pure_b])) (fun _ => rfl)) (
ws_pop (ws_ret0 (WE.cast (m' := ((mapO (fun edge4 => pure [edge4.1, edge4.2]) edges) >>= fun t6 => pure (decide (given = t6))) >>= fun t7 => if t7 = true then pure (decide (told = hues)) else pure false) (we_and (we_eqD C (cLst (cLst cInt)) (dp_lst (dp_lst dp_int)).r (dp_rl (dp_lst dp_int)) (we_var C 4) (WO.rd (wo_lc C [("edge", 7)] (by decide +kernel) (WI.cast (m' := pure edges) (wi_lst (we_var C 0)) (by first | rfl | simp only [bind_as, pure_b])) (ix := [7]) (by decide) (fun s_ H_ Cc_ cl_ fp_ C => (wg_name C 7)) (fun s_ H_ Cc_ cl_ fp_ edge4 C => WE.cast (m' := pure [edge4.1, edge4.2]) (WO.fz (wo_listT C Z (WE.map (we_var C 7) (fun (a : Int × Int) => [a.1, a.2]) t2_tup)) (fz_lst _)) (by first | rfl | simp only [bind_as, pure_b]))))) (we_bo1 (we_eqD C (cLst cInt) (dp_lst dp_int).r (dp_rl dp_int) (we_var C 5) (WO.rd (wo_list C Z (WE.rd (we_var C 2))))))) (by first | rfl | simp only [bind_as, pure_b])) (fun _ => rfl)))))))
def b_law_askedT (edges : List (Int × Int)) (count : Int) (hues : List Int) (due : Bool) : Out Bool :=
((pure edges) >>= fun xs2 => mapO (fun edge1 => pure [edge1.1, edge1.2]) xs2) >>= fun given =>
(pure hues) >>= fun told =>
(m_hues_even given count told) >>= fun actual =>
(if (!true) = true then pure true else pure (!decide (actual = due))) >>= fun c3 => if c3 = true then (
pure false)
else (
((mapO (fun edge4 => pure [edge4.1, edge4.2]) edges) >>= fun t6 => pure (decide (given = t6))) >>= fun t7 => if t7 = true then pure (decide (told = hues)) else pure false)
theorem x_law_askedT : ∃ g : (List (Int × Int)) → Int → (List Int) → Bool → Out Bool, g = b_law_askedT := ⟨_, rfl⟩
def m_law_askedT : (List (Int × Int)) → Int → (List Int) → Bool → Out Bool := Classical.choose x_law_askedT
theorem m_law_askedT_eq : m_law_askedT = b_law_askedT := Classical.choose_spec x_law_askedT
abbrev P_law_askedT : Par ((List (Int × Int)) × Int × (List Int) × Bool × Unit) := (pC (tLst (tT2 tInt tInt)) (pC tInt (pC (tTup tInt) (pC tBool pN))))
abbrev u_law_askedT (i : (List (Int × Int)) × Int × (List Int) × Bool × Unit) : Out Bool := m_law_askedT i.1 i.2.1 i.2.2.1 i.2.2.2.1
theorem sc_law_askedT : FnScope ["edges", "count", "hues", "due", "given", "told", "actual", "edge"] ["edges", "count", "hues", "due"] (defScope s_law_asked) := ⟨rfl, rfl, rfl, by decide +kernel, rfl, by decide +kernel, by decide +kernel⟩
abbrev sp_law_askedT (K : PySem.W.Frag) : Sp := Sps P_law_askedT u_law_askedT tBool K
theorem ok_law_askedT {fd : FuncData} (Z : Fre mg) (F : FunD K "_law_asked" "_law_asked" (defArgs s_law_asked) (defBody s_law_asked) (defScope s_law_asked) [] [] (He.fAd K ("_law_asked", none)) fd) (g : mg "_law_asked" = some (.ref (He.fAd K ("_law_asked", none)))) (G_hues_even : Def Pr w K mg base 1 "hues_even" ["edges", "count", "hues"] [] (sp_hues_even K))  : Def Pr w K mg base 2 "_law_asked" ["edges", "count", "hues", "due"] [] (sp_law_askedT K) := by
  refine ⟨_, fd, [], fn_body F sc_law_askedT rfl (by decide) (fun X E B i e1 e2 e3 e4 e5 hW C => ?_), g, F.kp, F.bindsN (fun _ _ _ _ _ _ us hl => match us, hl with | [_, _, _, _], _ => rfl), .nil⟩
  subst e1 e2 e3 e4 e5
  obtain ⟨edges, count, hues, due, _⟩ := i
  show WS X E B [iS (tLst (tT2 tInt tInt)) edges, iS tInt count, iS (tTup tInt) hues, iS tBool due, .any, .any, .any, .any] [_] (m_law_askedT edges count hues due) _
  rw [m_law_askedT_eq]
  unfold b_law_askedT
  exact ws_lc (f := _) C 4 [("edge", 7)] (by decide +kernel) (WI.cast (m' := pure edges) (wi_lst (we_var C 0)) (by first | rfl | simp only [bind_as, pure_b])) (ix := [7]) (by decide) (fun s_ H_ Cc_ cl_ fp_ C => (wg_name C 7)) (fun s_ H_ Cc_ cl_ fp_ edge1 C => WE.cast (m' := pure [edge1.1, edge1.2]) (WO.fz (wo_listT C Z (WE.map (we_var C 7) (fun (a : Int × Int) => [a.1, a.2]) t2_tup)) (fz_lst _)) (by first | rfl | simp only [bind_as, pure_b])) (fun given => ws_fz 4 (fz_lst _) hW rfl (
ws_set C 5 (WE.cast (m' := pure hues) (WO.fz (wo_listT C Z (we_var C 2)) (fz_lst _)) (by first | rfl | simp only [bind_as, pure_b])) (fun told =>
ws_set C 6 (WE.cast (m' := m_hues_even given count told) (we_call C G_hues_even (by decide) (wa_cons (R := (tLst (tLst tInt)).rl) (we_var C 4) fun a0 => wa_cons (R := tInt.rl) (we_var C 1) fun a1 => wa_cons (R := (tLst tInt).rl) (we_var C 5) fun a2 => wa_nil fun K F H s v2 r2 v1 r1 v0 r0 => ⟨(a0, a1, a2, ()), rfl, v0, _, rfl, r0, v1, _, rfl, r1, v2, _, rfl, r2, rfl⟩)) (by first | (simp only [pure_b, bind_as]; done) | rfl)) (fun actual =>
ws_if (WT.cast (m' := if (!true) = true then pure true else pure (!decide (actual = due))) (wt_b (wb_or (wt_not (wt_val (we_isi C Z (cn := "bool") (fun _ => true) ty_bool (fun _ => by decide +kernel) (we_var C 6) Z.bool (by decide +kernel)))) (wb_or1 (wt_ne eqs_bool (we_var C 6) (we_var C 3))))) (by first | rfl | simp only [bind_as, pure_b])) (
ws_ret0 (WE.cast (m' := pure false) we_bl (by first | rfl | simp only [bind_as, pure_b])) (fun _ => rfl)) (
ws_pop (ws_ret0 (WE.cast (m' := ((mapO (fun edge4 => pure [edge4.1, edge4.2]) edges) >>= fun t6 => pure (decide (given = t6))) >>= fun t7 => if t7 = true then pure (decide (told = hues)) else pure false) (we_and (we_eqD C (cLst (cLst cInt)) (dp_lst (dp_lst dp_int)).r (dp_rl (dp_lst dp_int)) (we_var C 4) (WO.rd (wo_lc C [("edge", 7)] (by decide +kernel) (WI.cast (m' := pure edges) (wi_lst (we_var C 0)) (by first | rfl | simp only [bind_as, pure_b])) (ix := [7]) (by decide) (fun s_ H_ Cc_ cl_ fp_ C => (wg_name C 7)) (fun s_ H_ Cc_ cl_ fp_ edge4 C => WE.cast (m' := pure [edge4.1, edge4.2]) (WO.fz (wo_listT C Z (WE.map (we_var C 7) (fun (a : Int × Int) => [a.1, a.2]) t2_tup)) (fz_lst _)) (by first | rfl | simp only [bind_as, pure_b]))))) (we_bo1 (we_eqD C (cLst cInt) (dp_lst dp_int).r (dp_rl dp_int) (we_var C 5) (WO.rd (wo_listT C Z (we_var C 2)))))) (by first | rfl | simp only [bind_as, pure_b])) (fun _ => rfl)))))))
def b_law_partner (edges : List (Int × Int)) (hues : List Int) (at_ : Int) (side : Int) : Out Int :=
((pure (upto edges.length)) >>= fun xs14 => forR (fun (s1 : Unit) (x2 : Int) =>
(modO (at_ + x2) (edges.length : Int)) >>= fun k =>
(((((idx edges k) >>= fun t3 => pure [t3.1, t3.2]) >>= fun t4 => idx t4 side) >>= fun t7 => (((idx edges at_) >>= fun t5 => pure [t5.1, t5.2]) >>= fun t6 => idx t6 side) >>= fun t8 => pure (decide (t7 = t8))) >>= fun t11 => if t11 = true then (idx hues k) >>= fun t9 => (idx hues at_) >>= fun t10 => pure (!decide (t9 = t10)) else pure false) >>= fun c12 => if c12 = true then (
(pure k) >>= fun r13 => pure (Step.rt r13))
else (
pure (Step.nx ()))) xs14 ()) >>= fun t17 => (match t17 with
| Step.rt r16 => pure r16
| Step.nx s15 =>
pure at_)
theorem x_law_partner : ∃ g : (List (Int × Int)) → (List Int) → Int → Int → Out Int, g = b_law_partner := ⟨_, rfl⟩
def m_law_partner : (List (Int × Int)) → (List Int) → Int → Int → Out Int := Classical.choose x_law_partner
theorem m_law_partner_eq : m_law_partner = b_law_partner := Classical.choose_spec x_law_partner
abbrev P_law_partner : Par ((List (Int × Int)) × (List Int) × Int × Int × Unit) := (pC (tLst (tT2 tInt tInt)) (pC (tLst tInt) (pC tInt (pC tInt pN))))
abbrev u_law_partner (i : (List (Int × Int)) × (List Int) × Int × Int × Unit) : Out Int := m_law_partner i.1 i.2.1 i.2.2.1 i.2.2.2.1
theorem sc_law_partner : FnScope ["edges", "hues", "at", "side", "turn", "k"] ["edges", "hues", "at", "side"] (defScope s_law_partner) := ⟨rfl, rfl, rfl, by decide +kernel, rfl, by decide +kernel, by decide +kernel⟩
abbrev sp_law_partner (K : PySem.W.Frag) : Sp := Sps P_law_partner u_law_partner tInt K
theorem ok_law_partner {fd : FuncData} (Z : Fre mg) (F : FunD K "_law_partner" "_law_partner" (defArgs s_law_partner) (defBody s_law_partner) (defScope s_law_partner) [] [] (He.fAd K ("_law_partner", none)) fd) (g : mg "_law_partner" = some (.ref (He.fAd K ("_law_partner", none))))   : Def Pr w K mg base 1 "_law_partner" ["edges", "hues", "at", "side"] [] (sp_law_partner K) := by
  refine ⟨_, fd, [], fn_body F sc_law_partner rfl (by decide) (fun X E B i e1 e2 e3 e4 e5 hW C => ?_), g, F.kp, F.bindsN (fun _ _ _ _ _ _ us hl => match us, hl with | [_, _, _, _], _ => rfl), .nil⟩
  subst e1 e2 e3 e4 e5
  obtain ⟨edges, hues, at_, side, _⟩ := i
  show WS X E B [iS (tLst (tT2 tInt tInt)) edges, iS (tLst tInt) hues, iS tInt at_, iS tInt side, .any, .any] [_] (m_law_partner edges hues at_ side) _
  rw [m_law_partner_eq]
  unfold b_law_partner
  exact ws_cons (D1 := DR (fun (s1 : Unit) => [iS (tLst (tT2 tInt tInt)) edges, iS (tLst tInt) hues, iS tInt at_, iS tInt side, .any, .any]) (fun b => .rt _ tInt b)) (w1_forR C (WI.cast (m' := pure (upto edges.length)) (wi_rlen C Z rl_len (WE.rd (we_var C 0))) (by first | rfl | simp only [bind_as, pure_b])) (wg_name C 4) (Δ := (fun (s1 : Unit) => [iS (tLst (tT2 tInt tInt)) edges, iS (tLst tInt) hues, iS tInt at_, iS tInt side, .any, .any])) (s0 := ()) (Rt := (fun b => .rt _ tInt b)) (Weak.same (Weak.same (Weak.same (Weak.same (Weak.same (Weak.same Weak.nil)))))) (by exact (fun s1 x2 =>
ws_set C 5 (WE.cast (m' := modO (at_ + x2) (edges.length : Int)) (we_mod (we_intI C Z (we_add (we_var C 2) (we_var C 4))) (we_lenL C Z (WE.rd (we_var C 0)))) (by first | rfl | simp only [bind_as, pure_b])) (fun k =>
ws_if (WT.cast (m' := ((((idx edges k) >>= fun t3 => pure [t3.1, t3.2]) >>= fun t4 => idx t4 side) >>= fun t7 => (((idx edges at_) >>= fun t5 => pure [t5.1, t5.2]) >>= fun t6 => idx t6 side) >>= fun t8 => pure (decide (t7 = t8))) >>= fun t11 => if t11 = true then (idx hues k) >>= fun t9 => (idx hues at_) >>= fun t10 => pure (!decide (t9 = t10)) else pure false) (wt_b (wb_and (wt_eq eqs_int (we_ixT (WE.map (we_ixL (WE.rd (we_var C 0)) (we_var C 5)) (fun (a : Int × Int) => [a.1, a.2]) t2_tup) (we_var C 3)) (we_ixT (WE.map (we_ixL (WE.rd (we_var C 0)) (we_var C 2)) (fun (a : Int × Int) => [a.1, a.2]) t2_tup) (we_var C 3))) (wb_and1 (wt_ne eqs_int (we_ixL (WE.rd (we_var C 1)) (we_var C 5)) (we_ixL (WE.rd (we_var C 1)) (we_var C 2)))))) (by first | rfl | simp only [bind_as, pure_b])) (
ws_ret (g := Step.rt) (WE.cast (m' := pure k) (we_var C 5) (by first | rfl | simp only [bind_as, pure_b])) (fun _ => rfl)) (
ws_pop (ws_fin rfl (Weak.same (Weak.same (Weak.same (Weak.same (Weak.any (Weak.any Weak.nil))))))))))) (fun r => .inl ⟨_, _, _, rfl⟩)) (fun t17 => match t17 with
| Step.rt r16 => .inr ⟨trivial, r16, rfl, rfl⟩
| Step.nx s15 => .inl ⟨_, rfl, (
ws_ret0 (WE.cast (m' := pure at_) (we_var C 2) (by first | rfl | simp only [bind_as, pure_b])) (fun _ => rfl))⟩)
def b_law_partnerT (edges : List (Int × Int)) (hues : List Int) (at_ : Int) (side : Int) : Out Int :=
((pure (upto edges.length)) >>= fun xs14 => forR (fun (s1 : Unit) (x2 : Int) =>
(modO (at_ + x2) (edges.length : Int)) >>= fun k =>
(((((idx edges k) >>= fun t3 => pure [t3.1, t3.2]) >>= fun t4 => idx t4 side) >>= fun t7 => (((idx edges at_) >>= fun t5 => pure [t5.1, t5.2]) >>= fun t6 => idx t6 side) >>= fun t8 => pure (decide (t7 = t8))) >>= fun t11 => if t11 = true then (idx hues k) >>= fun t9 => (idx hues at_) >>= fun t10 => pure (!decide (t9 = t10)) else pure false) >>= fun c12 => if c12 = true then (
(pure k) >>= fun r13 => pure (Step.rt r13))
else (
pure (Step.nx ()))) xs14 ()) >>= fun t17 => (match t17 with
| Step.rt r16 => pure r16
| Step.nx s15 =>
pure at_)
theorem x_law_partnerT : ∃ g : (List (Int × Int)) → (List Int) → Int → Int → Out Int, g = b_law_partnerT := ⟨_, rfl⟩
def m_law_partnerT : (List (Int × Int)) → (List Int) → Int → Int → Out Int := Classical.choose x_law_partnerT
theorem m_law_partnerT_eq : m_law_partnerT = b_law_partnerT := Classical.choose_spec x_law_partnerT
abbrev P_law_partnerT : Par ((List (Int × Int)) × (List Int) × Int × Int × Unit) := (pC (tLst (tT2 tInt tInt)) (pC (tTup tInt) (pC tInt (pC tInt pN))))
abbrev u_law_partnerT (i : (List (Int × Int)) × (List Int) × Int × Int × Unit) : Out Int := m_law_partnerT i.1 i.2.1 i.2.2.1 i.2.2.2.1
theorem sc_law_partnerT : FnScope ["edges", "hues", "at", "side", "turn", "k"] ["edges", "hues", "at", "side"] (defScope s_law_partner) := ⟨rfl, rfl, rfl, by decide +kernel, rfl, by decide +kernel, by decide +kernel⟩
abbrev sp_law_partnerT (K : PySem.W.Frag) : Sp := Sps P_law_partnerT u_law_partnerT tInt K
theorem ok_law_partnerT {fd : FuncData} (Z : Fre mg) (F : FunD K "_law_partner" "_law_partner" (defArgs s_law_partner) (defBody s_law_partner) (defScope s_law_partner) [] [] (He.fAd K ("_law_partner", none)) fd) (g : mg "_law_partner" = some (.ref (He.fAd K ("_law_partner", none))))   : Def Pr w K mg base 1 "_law_partner" ["edges", "hues", "at", "side"] [] (sp_law_partnerT K) := by
  refine ⟨_, fd, [], fn_body F sc_law_partnerT rfl (by decide) (fun X E B i e1 e2 e3 e4 e5 hW C => ?_), g, F.kp, F.bindsN (fun _ _ _ _ _ _ us hl => match us, hl with | [_, _, _, _], _ => rfl), .nil⟩
  subst e1 e2 e3 e4 e5
  obtain ⟨edges, hues, at_, side, _⟩ := i
  show WS X E B [iS (tLst (tT2 tInt tInt)) edges, iS (tTup tInt) hues, iS tInt at_, iS tInt side, .any, .any] [_] (m_law_partnerT edges hues at_ side) _
  rw [m_law_partnerT_eq]
  unfold b_law_partnerT
  exact ws_cons (D1 := DR (fun (s1 : Unit) => [iS (tLst (tT2 tInt tInt)) edges, iS (tTup tInt) hues, iS tInt at_, iS tInt side, .any, .any]) (fun b => .rt _ tInt b)) (w1_forR C (WI.cast (m' := pure (upto edges.length)) (wi_rlen C Z rl_len (WE.rd (we_var C 0))) (by first | rfl | simp only [bind_as, pure_b])) (wg_name C 4) (Δ := (fun (s1 : Unit) => [iS (tLst (tT2 tInt tInt)) edges, iS (tTup tInt) hues, iS tInt at_, iS tInt side, .any, .any])) (s0 := ()) (Rt := (fun b => .rt _ tInt b)) (Weak.same (Weak.same (Weak.same (Weak.same (Weak.same (Weak.same Weak.nil)))))) (by exact (fun s1 x2 =>
ws_set C 5 (WE.cast (m' := modO (at_ + x2) (edges.length : Int)) (we_mod (we_intI C Z (we_add (we_var C 2) (we_var C 4))) (we_lenL C Z (WE.rd (we_var C 0)))) (by first | rfl | simp only [bind_as, pure_b])) (fun k =>
ws_if (WT.cast (m' := ((((idx edges k) >>= fun t3 => pure [t3.1, t3.2]) >>= fun t4 => idx t4 side) >>= fun t7 => (((idx edges at_) >>= fun t5 => pure [t5.1, t5.2]) >>= fun t6 => idx t6 side) >>= fun t8 => pure (decide (t7 = t8))) >>= fun t11 => if t11 = true then (idx hues k) >>= fun t9 => (idx hues at_) >>= fun t10 => pure (!decide (t9 = t10)) else pure false) (wt_b (wb_and (wt_eq eqs_int (we_ixT (WE.map (we_ixL (WE.rd (we_var C 0)) (we_var C 5)) (fun (a : Int × Int) => [a.1, a.2]) t2_tup) (we_var C 3)) (we_ixT (WE.map (we_ixL (WE.rd (we_var C 0)) (we_var C 2)) (fun (a : Int × Int) => [a.1, a.2]) t2_tup) (we_var C 3))) (wb_and1 (wt_ne eqs_int (we_ixT (we_var C 1) (we_var C 5)) (we_ixT (we_var C 1) (we_var C 2)))))) (by first | rfl | simp only [bind_as, pure_b])) (
ws_ret (g := Step.rt) (WE.cast (m' := pure k) (we_var C 5) (by first | rfl | simp only [bind_as, pure_b])) (fun _ => rfl)) (
ws_pop (ws_fin rfl (Weak.same (Weak.same (Weak.same (Weak.same (Weak.any (Weak.any Weak.nil))))))))))) (fun r => .inl ⟨_, _, _, rfl⟩)) (fun t17 => match t17 with
| Step.rt r16 => .inr ⟨trivial, r16, rfl, rfl⟩
| Step.nx s15 => .inl ⟨_, rfl, (
ws_ret0 (WE.cast (m' := pure at_) (we_var C 2) (by first | rfl | simp only [bind_as, pure_b])) (fun _ => rfl))⟩)
def b_law_changed (edges : List (Int × Int)) (count : Int) (hues : List Int) (part : List Int) : Out (List Int) :=
(pure hues) >>= fun changed =>
(((idx part 1) >>= fun t1 => pure t1) >>= fun t2 => modO t2 (edges.length : Int)) >>= fun at_ =>
((((idx part 0) >>= fun t3 => pure (decide (t3 = 0))) >>= fun t5 => if t5 = true then pure true else (idx part 0) >>= fun t4 => pure (decide (t4 = 1))) >>= fun c6 => if c6 = true then (
(((((idx hues at_) >>= fun t8 => pure (t8 + 1)) >>= fun t9 => (idx part 2) >>= fun t10 => pure (t9 + t10)) >>= fun t11 => pure t11) >>= fun t12 => modO t12 count) >>= fun a13 => (pure at_) >>= fun j14 => setO changed j14 a13 >>= fun changed =>
pure changed)
else (
pure changed)) >>= fun s7 =>
(((idx part 0) >>= fun t15 => pure (decide (t15 = 2))) >>= fun c16 => if c16 = true then (
((idx hues at_) >>= fun t18 => pure (t18 - count)) >>= fun a19 => (pure at_) >>= fun j20 => setO s7 j20 a19 >>= fun changed =>
pure changed)
else (
pure s7)) >>= fun s17 =>
(((idx part 0) >>= fun t21 => pure (decide (t21 = 3))) >>= fun c22 => if c22 = true then (
((idx hues at_) >>= fun t24 => pure (t24 + count)) >>= fun a25 => (pure at_) >>= fun j26 => setO s17 j26 a25 >>= fun changed =>
pure changed)
else (
pure s17)) >>= fun s23 =>
(((idx part 0) >>= fun t27 => pure (decide (t27 = 4))) >>= fun c28 => if c28 = true then (
(((((idx part 2) >>= fun t30 => pure (1000000000000 * t30)) >>= fun t31 => pure ((-1) - t31)) >>= fun t33 => ((idx part 2) >>= fun t32 => pure (count + t32)) >>= fun t34 => pure [-1, count, 1000000000000000000000000000000, t33, t34]) >>= fun t37 => (((idx part 2) >>= fun t35 => pure t35) >>= fun t36 => pure (t36 % 5)) >>= fun t38 => idx t37 t38) >>= fun a39 => (pure at_) >>= fun j40 => setO s23 j40 a39 >>= fun changed =>
pure changed)
else (
pure s23)) >>= fun s29 =>
((((idx part 0) >>= fun t41 => pure (decide (t41 = 5))) >>= fun t43 => if t43 = true then pure true else (idx part 0) >>= fun t42 => pure (decide (t42 = 6))) >>= fun c44 => if c44 = true then (
(((idx part 0) >>= fun t46 => pure (t46 - 5)) >>= fun t47 => m_law_partner edges hues at_ t47) >>= fun other =>
(idx hues other) >>= fun a48 => (pure at_) >>= fun j49 => setO s29 j49 a48 >>= fun changed =>
(idx hues at_) >>= fun a50 => (pure other) >>= fun j51 => setO changed j51 a50 >>= fun changed =>
pure changed)
else (
pure s29)) >>= fun s45 =>
(((idx part 0) >>= fun t52 => pure (decide (t52 = 7))) >>= fun c53 => if c53 = true then (
(((((idx part 1) >>= fun t55 => pure (t55 / 3)) >>= fun t56 => (idx part 2) >>= fun t57 => pure (t56 + t57)) >>= fun t58 => pure t58) >>= fun t59 => modO t59 (edges.length : Int)) >>= fun other =>
(idx hues other) >>= fun a60 => (pure at_) >>= fun j61 => setO s45 j61 a60 >>= fun changed =>
(idx hues at_) >>= fun a62 => (pure other) >>= fun j63 => setO changed j63 a62 >>= fun changed =>
pure changed)
else (
pure s45)) >>= fun s54 =>
(((idx part 0) >>= fun t64 => pure (decide (t64 = 8))) >>= fun c65 => if c65 = true then (
(((((idx hues ((edges.length : Int) - 1)) >>= fun t67 => pure (t67 + 1)) >>= fun t68 => (idx part 2) >>= fun t69 => pure (t68 + t69)) >>= fun t70 => pure t70) >>= fun t71 => modO t71 count) >>= fun a72 => (pure ((edges.length : Int) - 1)) >>= fun j73 => setO s54 j73 a72 >>= fun changed =>
pure changed)
else (
pure s54)) >>= fun s66 =>
pure s66
theorem x_law_changed : ∃ g : (List (Int × Int)) → Int → (List Int) → (List Int) → Out (List Int), g = b_law_changed := ⟨_, rfl⟩
def m_law_changed : (List (Int × Int)) → Int → (List Int) → (List Int) → Out (List Int) := Classical.choose x_law_changed
theorem m_law_changed_eq : m_law_changed = b_law_changed := Classical.choose_spec x_law_changed
abbrev P_law_changed : Par ((List (Int × Int)) × Int × (List Int) × (List Int) × Unit) := (pC (tLst (tT2 tInt tInt)) (pC tInt (pC (tLst tInt) (pC (tLst tInt) pN))))
abbrev u_law_changed (i : (List (Int × Int)) × Int × (List Int) × (List Int) × Unit) : Out (List Int) := m_law_changed i.1 i.2.1 i.2.2.1 i.2.2.2.1
theorem sc_law_changed : FnScope ["edges", "count", "hues", "part", "changed", "at", "other"] ["edges", "count", "hues", "part"] (defScope s_law_changed) := ⟨rfl, rfl, rfl, by decide +kernel, rfl, by decide +kernel, by decide +kernel⟩
abbrev sp_law_changed (K : PySem.W.Frag) : Sp := SpsO P_law_changed u_law_changed (oLst tInt) K
theorem ok_law_changed {fd : FuncData} (Z : Fre mg) (F : FunD K "_law_changed" "_law_changed" (defArgs s_law_changed) (defBody s_law_changed) (defScope s_law_changed) [] [] (He.fAd K ("_law_changed", none)) fd) (g : mg "_law_changed" = some (.ref (He.fAd K ("_law_changed", none)))) (G_law_partner : Def Pr w K mg base 1 "_law_partner" ["edges", "hues", "at", "side"] [] (sp_law_partner K))  : Def Pr w K mg base 2 "_law_changed" ["edges", "count", "hues", "part"] [] (sp_law_changed K) := by
  refine ⟨_, fd, [], fn_bodyO F sc_law_changed rfl (by decide) (fun X E B i e1 e2 e3 e4 e5 hW C => ?_), g, F.kp, F.bindsN (fun _ _ _ _ _ _ us hl => match us, hl with | [_, _, _, _], _ => rfl), .nil⟩
  subst e1 e2 e3 e4 e5
  obtain ⟨edges, count, hues, part, _⟩ := i
  show WS X E B [iS (tLst (tT2 tInt tInt)) edges, iS tInt count, iS (tLst tInt) hues, iS (tLst tInt) part, .any, .any, .any] [_] (m_law_changed edges count hues part) _
  rw [m_law_changed_eq]
  unfold b_law_changed
  exact ws_setO C 4 (WO.cast (m' := pure hues) (wo_list C Z (WE.rd (we_var C 2))) (by first | rfl | simp only [bind_as, pure_b])) (fun changed =>
ws_set C 5 (WE.cast (m' := ((idx part 1) >>= fun t1 => pure t1) >>= fun t2 => modO t2 (edges.length : Int)) (we_mod (we_intI C Z (we_ixL (WE.rd (we_var C 3)) we_int)) (we_lenL C Z (WE.rd (we_var C 0)))) (by first | rfl | simp only [bind_as, pure_b])) (fun at_ =>
ws_seq (Δ := (fun (s7 : (List Int)) => [iS (tLst (tT2 tInt tInt)) edges, iS tInt count, iS (tLst tInt) hues, iS (tLst tInt) part, .on _ (oLst tInt) s7, iS tInt at_, .any])) (w1_if (WT.cast (m' := ((idx part 0) >>= fun t3 => pure (decide (t3 = 0))) >>= fun t5 => if t5 = true then pure true else (idx part 0) >>= fun t4 => pure (decide (t4 = 1))) (wt_b (wb_or (wt_eq eqs_int (we_ixL (WE.rd (we_var C 3)) we_int) we_int) (wb_or1 (wt_eq eqs_int (we_ixL (WE.rd (we_var C 3)) we_int) we_int)))) (by first | rfl | simp only [bind_as, pure_b])) (
ws_setI C 4 (WE.cast (m' := ((((idx hues at_) >>= fun t8 => pure (t8 + 1)) >>= fun t9 => (idx part 2) >>= fun t10 => pure (t9 + t10)) >>= fun t11 => pure t11) >>= fun t12 => modO t12 count) (we_mod (we_intI C Z (we_add (we_add (we_ixL (WE.rd (we_var C 2)) (we_var C 5)) we_int) (we_ixL (WE.rd (we_var C 3)) we_int))) (we_var C 1)) (by first | rfl | simp only [bind_as, pure_b])) (WE.cast (m' := pure at_) (we_var C 5) (by first | rfl | simp only [bind_as, pure_b])) (fun changed =>
ws_fin rfl (Weak.same (Weak.same (Weak.same (Weak.same (Weak.same (Weak.same (Weak.same Weak.nil))))))))) (
ws_fin rfl (Weak.same (Weak.same (Weak.same (Weak.same (Weak.same (Weak.same (Weak.same Weak.nil))))))))) (fun s7 =>
ws_seq (Δ := (fun (s17 : (List Int)) => [iS (tLst (tT2 tInt tInt)) edges, iS tInt count, iS (tLst tInt) hues, iS (tLst tInt) part, .on _ (oLst tInt) s17, iS tInt at_, .any])) (w1_if (WT.cast (m' := (idx part 0) >>= fun t15 => pure (decide (t15 = 2))) (wt_eq eqs_int (we_ixL (WE.rd (we_var C 3)) we_int) we_int) (by first | rfl | simp only [bind_as, pure_b])) (
ws_setI C 4 (WE.cast (m' := (idx hues at_) >>= fun t18 => pure (t18 - count)) (we_sub (we_ixL (WE.rd (we_var C 2)) (we_var C 5)) (we_var C 1)) (by first | rfl | simp only [bind_as, pure_b])) (WE.cast (m' := pure at_) (we_var C 5) (by first | rfl | simp only [bind_as, pure_b])) (fun changed =>
ws_fin rfl (Weak.same (Weak.same (Weak.same (Weak.same (Weak.same (Weak.same (Weak.same Weak.nil))))))))) (
ws_fin rfl (Weak.same (Weak.same (Weak.same (Weak.same (Weak.same (Weak.same (Weak.same Weak.nil))))))))) (fun s17 =>
ws_seq (Δ := (fun (s23 : (List Int)) => [iS (tLst (tT2 tInt tInt)) edges, iS tInt count, iS (tLst tInt) hues, iS (tLst tInt) part, .on _ (oLst tInt) s23, iS tInt at_, .any])) (w1_if (WT.cast (m' := (idx part 0) >>= fun t21 => pure (decide (t21 = 3))) (wt_eq eqs_int (we_ixL (WE.rd (we_var C 3)) we_int) we_int) (by first | rfl | simp only [bind_as, pure_b])) (
ws_setI C 4 (WE.cast (m' := (idx hues at_) >>= fun t24 => pure (t24 + count)) (we_add (we_ixL (WE.rd (we_var C 2)) (we_var C 5)) (we_var C 1)) (by first | rfl | simp only [bind_as, pure_b])) (WE.cast (m' := pure at_) (we_var C 5) (by first | rfl | simp only [bind_as, pure_b])) (fun changed =>
ws_fin rfl (Weak.same (Weak.same (Weak.same (Weak.same (Weak.same (Weak.same (Weak.same Weak.nil))))))))) (
ws_fin rfl (Weak.same (Weak.same (Weak.same (Weak.same (Weak.same (Weak.same (Weak.same Weak.nil))))))))) (fun s23 =>
ws_seq (Δ := (fun (s29 : (List Int)) => [iS (tLst (tT2 tInt tInt)) edges, iS tInt count, iS (tLst tInt) hues, iS (tLst tInt) part, .on _ (oLst tInt) s29, iS tInt at_, .any])) (w1_if (WT.cast (m' := (idx part 0) >>= fun t27 => pure (decide (t27 = 4))) (wt_eq eqs_int (we_ixL (WE.rd (we_var C 3)) we_int) we_int) (by first | rfl | simp only [bind_as, pure_b])) (
ws_setI C 4 (WE.cast (m' := ((((idx part 2) >>= fun t30 => pure (1000000000000 * t30)) >>= fun t31 => pure ((-1) - t31)) >>= fun t33 => ((idx part 2) >>= fun t32 => pure (count + t32)) >>= fun t34 => pure [-1, count, 1000000000000000000000000000000, t33, t34]) >>= fun t37 => (((idx part 2) >>= fun t35 => pure t35) >>= fun t36 => pure (t36 % 5)) >>= fun t38 => idx t37 t38) (we_ixL (WO.rd (wo_lst (wal_cons (we_neg we_int) (wal_cons (we_var C 1) (wal_cons (we_powL 1000000000000000000000000000000 we_int we_int) (wal_cons (WE.cast (m' := ((idx part 2) >>= fun t30 => pure (1000000000000 * t30)) >>= fun t31 => pure ((-1) - t31)) (we_sub (we_neg we_int) (we_mulL (we_powL 1000000000000 we_int we_int) (we_ixL (WE.rd (we_var C 3)) we_int))) (by first | rfl | simp only [bind_as, pure_b])) (wal_cons (WE.cast (m' := (idx part 2) >>= fun t32 => pure (count + t32)) (we_add (we_var C 1) (we_ixL (WE.rd (we_var C 3)) we_int)) (by first | rfl | simp only [bind_as, pure_b])) wal_nil))))))) (we_modR (we_intI C Z (we_ixL (WE.rd (we_var C 3)) we_int)) we_int)) (by first | rfl | simp only [bind_as, pure_b])) (WE.cast (m' := pure at_) (we_var C 5) (by first | rfl | simp only [bind_as, pure_b])) (fun changed =>
ws_fin rfl (Weak.same (Weak.same (Weak.same (Weak.same (Weak.same (Weak.same (Weak.same Weak.nil))))))))) (
ws_fin rfl (Weak.same (Weak.same (Weak.same (Weak.same (Weak.same (Weak.same (Weak.same Weak.nil))))))))) (fun s29 =>
ws_seq (Δ := (fun (s45 : (List Int)) => [iS (tLst (tT2 tInt tInt)) edges, iS tInt count, iS (tLst tInt) hues, iS (tLst tInt) part, .on _ (oLst tInt) s45, iS tInt at_, .any])) (w1_if (WT.cast (m' := ((idx part 0) >>= fun t41 => pure (decide (t41 = 5))) >>= fun t43 => if t43 = true then pure true else (idx part 0) >>= fun t42 => pure (decide (t42 = 6))) (wt_b (wb_or (wt_eq eqs_int (we_ixL (WE.rd (we_var C 3)) we_int) we_int) (wb_or1 (wt_eq eqs_int (we_ixL (WE.rd (we_var C 3)) we_int) we_int)))) (by first | rfl | simp only [bind_as, pure_b])) (
ws_set C 6 (WE.cast (m' := ((idx part 0) >>= fun t46 => pure (t46 - 5)) >>= fun t47 => m_law_partner edges hues at_ t47) (we_call C G_law_partner (by decide) (wa_cons (R := (tLst (tT2 tInt tInt)).rl) (we_var C 0) fun a0 => wa_cons (R := (tLst tInt).rl) (we_var C 2) fun a1 => wa_cons (R := tInt.rl) (we_var C 5) fun a2 => wa_cons (R := tInt.rl) (WE.cast (m' := (idx part 0) >>= fun t46 => pure (t46 - 5)) (we_sub (we_ixL (WE.rd (we_var C 3)) we_int) we_int) (by first | rfl | simp only [bind_as, pure_b])) fun a3 => wa_nil fun K F H s v3 r3 v2 r2 v1 r1 v0 r0 => ⟨(a0, a1, a2, a3, ()), rfl, v0, _, rfl, r0, v1, _, rfl, r1, v2, _, rfl, r2, v3, _, rfl, r3, rfl⟩)) (by first | (simp only [pure_b, bind_as]; done) | rfl)) (fun other =>
ws_setI C 4 (WE.cast (m' := idx hues other) (we_ixL (WE.rd (we_var C 2)) (we_var C 6)) (by first | rfl | simp only [bind_as, pure_b])) (WE.cast (m' := pure at_) (we_var C 5) (by first | rfl | simp only [bind_as, pure_b])) (fun changed =>
ws_setI C 4 (WE.cast (m' := idx hues at_) (we_ixL (WE.rd (we_var C 2)) (we_var C 5)) (by first | rfl | simp only [bind_as, pure_b])) (WE.cast (m' := pure other) (we_var C 6) (by first | rfl | simp only [bind_as, pure_b])) (fun changed =>
ws_fin rfl (Weak.same (Weak.same (Weak.same (Weak.same (Weak.same (Weak.same (Weak.any Weak.nil))))))))))) (
ws_fin rfl (Weak.same (Weak.same (Weak.same (Weak.same (Weak.same (Weak.same (Weak.same Weak.nil))))))))) (fun s45 =>
ws_seq (Δ := (fun (s54 : (List Int)) => [iS (tLst (tT2 tInt tInt)) edges, iS tInt count, iS (tLst tInt) hues, iS (tLst tInt) part, .on _ (oLst tInt) s54, iS tInt at_, .any])) (w1_if (WT.cast (m' := (idx part 0) >>= fun t52 => pure (decide (t52 = 7))) (wt_eq eqs_int (we_ixL (WE.rd (we_var C 3)) we_int) we_int) (by first | rfl | simp only [bind_as, pure_b])) (
ws_set C 6 (WE.cast (m' := ((((idx part 1) >>= fun t55 => pure (t55 / 3)) >>= fun t56 => (idx part 2) >>= fun t57 => pure (t56 + t57)) >>= fun t58 => pure t58) >>= fun t59 => modO t59 (edges.length : Int)) (we_mod (we_intI C Z (we_add (we_divR (we_ixL (WE.rd (we_var C 3)) we_int) we_int) (we_ixL (WE.rd (we_var C 3)) we_int))) (we_lenL C Z (WE.rd (we_var C 0)))) (by first | rfl | simp only [bind_as, pure_b])) (fun other =>
ws_setI C 4 (WE.cast (m' := idx hues other) (we_ixL (WE.rd (we_var C 2)) (we_var C 6)) (by first | rfl | simp only [bind_as, pure_b])) (WE.cast (m' := pure at_) (we_var C 5) (by first | rfl | simp only [bind_as, pure_b])) (fun changed =>
ws_setI C 4 (WE.cast (m' := idx hues at_) (we_ixL (WE.rd (we_var C 2)) (we_var C 5)) (by first | rfl | simp only [bind_as, pure_b])) (WE.cast (m' := pure other) (we_var C 6) (by first | rfl | simp only [bind_as, pure_b])) (fun changed =>
ws_fin rfl (Weak.same (Weak.same (Weak.same (Weak.same (Weak.same (Weak.same (Weak.any Weak.nil))))))))))) (
ws_fin rfl (Weak.same (Weak.same (Weak.same (Weak.same (Weak.same (Weak.same (Weak.same Weak.nil))))))))) (fun s54 =>
ws_seq (Δ := (fun (s66 : (List Int)) => [iS (tLst (tT2 tInt tInt)) edges, iS tInt count, iS (tLst tInt) hues, iS (tLst tInt) part, .on _ (oLst tInt) s66, iS tInt at_, .any])) (w1_if (WT.cast (m' := (idx part 0) >>= fun t64 => pure (decide (t64 = 8))) (wt_eq eqs_int (we_ixL (WE.rd (we_var C 3)) we_int) we_int) (by first | rfl | simp only [bind_as, pure_b])) (
ws_setI C 4 (WE.cast (m' := ((((idx hues ((edges.length : Int) - 1)) >>= fun t67 => pure (t67 + 1)) >>= fun t68 => (idx part 2) >>= fun t69 => pure (t68 + t69)) >>= fun t70 => pure t70) >>= fun t71 => modO t71 count) (we_mod (we_intI C Z (we_add (we_add (we_ixL (WE.rd (we_var C 2)) (we_sub (we_lenL C Z (WE.rd (we_var C 0))) we_int)) we_int) (we_ixL (WE.rd (we_var C 3)) we_int))) (we_var C 1)) (by first | rfl | simp only [bind_as, pure_b])) (WE.cast (m' := pure ((edges.length : Int) - 1)) (we_sub (we_lenL C Z (WE.rd (we_var C 0))) we_int) (by first | rfl | simp only [bind_as, pure_b])) (fun changed =>
ws_fin rfl (Weak.same (Weak.same (Weak.same (Weak.same (Weak.same (Weak.same (Weak.same Weak.nil))))))))) (
ws_fin rfl (Weak.same (Weak.same (Weak.same (Weak.same (Weak.same (Weak.same (Weak.same Weak.nil))))))))) (fun s66 =>
ws_retV C 4 hW rfl)))))))))
def b_law_changedT (edges : List (Int × Int)) (count : Int) (hues : List Int) (part : List Int) : Out (List Int) :=
(pure hues) >>= fun changed =>
(((idx part 1) >>= fun t1 => pure t1) >>= fun t2 => modO t2 (edges.length : Int)) >>= fun at_ =>
((((idx part 0) >>= fun t3 => pure (decide (t3 = 0))) >>= fun t5 => if t5 = true then pure true else (idx part 0) >>= fun t4 => pure (decide (t4 = 1))) >>= fun c6 => if c6 = true then (
(((((idx hues at_) >>= fun t8 => pure (t8 + 1)) >>= fun t9 => (idx part 2) >>= fun t10 => pure (t9 + t10)) >>= fun t11 => pure t11) >>= fun t12 => modO t12 count) >>= fun a13 => (pure at_) >>= fun j14 => setO changed j14 a13 >>= fun changed =>
pure changed)
else (
pure changed)) >>= fun s7 =>
(((idx part 0) >>= fun t15 => pure (decide (t15 = 2))) >>= fun c16 => if c16 = true then (
((idx hues at_) >>= fun t18 => pure (t18 - count)) >>= fun a19 => (pure at_) >>= fun j20 => setO s7 j20 a19 >>= fun changed =>
pure changed)
else (
pure s7)) >>= fun s17 =>
(((idx part 0) >>= fun t21 => pure (decide (t21 = 3))) >>= fun c22 => if c22 = true then (
((idx hues at_) >>= fun t24 => pure (t24 + count)) >>= fun a25 => (pure at_) >>= fun j26 => setO s17 j26 a25 >>= fun changed =>
pure changed)
else (
pure s17)) >>= fun s23 =>
(((idx part 0) >>= fun t27 => pure (decide (t27 = 4))) >>= fun c28 => if c28 = true then (
(((((idx part 2) >>= fun t30 => pure (1000000000000 * t30)) >>= fun t31 => pure ((-1) - t31)) >>= fun t33 => ((idx part 2) >>= fun t32 => pure (count + t32)) >>= fun t34 => pure [-1, count, 1000000000000000000000000000000, t33, t34]) >>= fun t37 => (((idx part 2) >>= fun t35 => pure t35) >>= fun t36 => pure (t36 % 5)) >>= fun t38 => idx t37 t38) >>= fun a39 => (pure at_) >>= fun j40 => setO s23 j40 a39 >>= fun changed =>
pure changed)
else (
pure s23)) >>= fun s29 =>
((((idx part 0) >>= fun t41 => pure (decide (t41 = 5))) >>= fun t43 => if t43 = true then pure true else (idx part 0) >>= fun t42 => pure (decide (t42 = 6))) >>= fun c44 => if c44 = true then (
(((idx part 0) >>= fun t46 => pure (t46 - 5)) >>= fun t47 => m_law_partnerT edges hues at_ t47) >>= fun other =>
(idx hues other) >>= fun a48 => (pure at_) >>= fun j49 => setO s29 j49 a48 >>= fun changed =>
(idx hues at_) >>= fun a50 => (pure other) >>= fun j51 => setO changed j51 a50 >>= fun changed =>
pure changed)
else (
pure s29)) >>= fun s45 =>
(((idx part 0) >>= fun t52 => pure (decide (t52 = 7))) >>= fun c53 => if c53 = true then (
(((((idx part 1) >>= fun t55 => pure (t55 / 3)) >>= fun t56 => (idx part 2) >>= fun t57 => pure (t56 + t57)) >>= fun t58 => pure t58) >>= fun t59 => modO t59 (edges.length : Int)) >>= fun other =>
(idx hues other) >>= fun a60 => (pure at_) >>= fun j61 => setO s45 j61 a60 >>= fun changed =>
(idx hues at_) >>= fun a62 => (pure other) >>= fun j63 => setO changed j63 a62 >>= fun changed =>
pure changed)
else (
pure s45)) >>= fun s54 =>
(((idx part 0) >>= fun t64 => pure (decide (t64 = 8))) >>= fun c65 => if c65 = true then (
(((((idx hues ((edges.length : Int) - 1)) >>= fun t67 => pure (t67 + 1)) >>= fun t68 => (idx part 2) >>= fun t69 => pure (t68 + t69)) >>= fun t70 => pure t70) >>= fun t71 => modO t71 count) >>= fun a72 => (pure ((edges.length : Int) - 1)) >>= fun j73 => setO s54 j73 a72 >>= fun changed =>
pure changed)
else (
pure s54)) >>= fun s66 =>
pure s66
theorem x_law_changedT : ∃ g : (List (Int × Int)) → Int → (List Int) → (List Int) → Out (List Int), g = b_law_changedT := ⟨_, rfl⟩
def m_law_changedT : (List (Int × Int)) → Int → (List Int) → (List Int) → Out (List Int) := Classical.choose x_law_changedT
theorem m_law_changedT_eq : m_law_changedT = b_law_changedT := Classical.choose_spec x_law_changedT
abbrev P_law_changedT : Par ((List (Int × Int)) × Int × (List Int) × (List Int) × Unit) := (pC (tLst (tT2 tInt tInt)) (pC tInt (pC (tTup tInt) (pC (tLst tInt) pN))))
abbrev u_law_changedT (i : (List (Int × Int)) × Int × (List Int) × (List Int) × Unit) : Out (List Int) := m_law_changedT i.1 i.2.1 i.2.2.1 i.2.2.2.1
theorem sc_law_changedT : FnScope ["edges", "count", "hues", "part", "changed", "at", "other"] ["edges", "count", "hues", "part"] (defScope s_law_changed) := ⟨rfl, rfl, rfl, by decide +kernel, rfl, by decide +kernel, by decide +kernel⟩
abbrev sp_law_changedT (K : PySem.W.Frag) : Sp := SpsO P_law_changedT u_law_changedT (oLst tInt) K
theorem ok_law_changedT {fd : FuncData} (Z : Fre mg) (F : FunD K "_law_changed" "_law_changed" (defArgs s_law_changed) (defBody s_law_changed) (defScope s_law_changed) [] [] (He.fAd K ("_law_changed", none)) fd) (g : mg "_law_changed" = some (.ref (He.fAd K ("_law_changed", none)))) (G_law_partnerT : Def Pr w K mg base 1 "_law_partner" ["edges", "hues", "at", "side"] [] (sp_law_partnerT K))  : Def Pr w K mg base 2 "_law_changed" ["edges", "count", "hues", "part"] [] (sp_law_changedT K) := by
  refine ⟨_, fd, [], fn_bodyO F sc_law_changedT rfl (by decide) (fun X E B i e1 e2 e3 e4 e5 hW C => ?_), g, F.kp, F.bindsN (fun _ _ _ _ _ _ us hl => match us, hl with | [_, _, _, _], _ => rfl), .nil⟩
  subst e1 e2 e3 e4 e5
  obtain ⟨edges, count, hues, part, _⟩ := i
  show WS X E B [iS (tLst (tT2 tInt tInt)) edges, iS tInt count, iS (tTup tInt) hues, iS (tLst tInt) part, .any, .any, .any] [_] (m_law_changedT edges count hues part) _
  rw [m_law_changedT_eq]
  unfold b_law_changedT
  exact ws_setO C 4 (WO.cast (m' := pure hues) (wo_listT C Z (we_var C 2)) (by first | rfl | simp only [bind_as, pure_b])) (fun changed =>
ws_set C 5 (WE.cast (m' := ((idx part 1) >>= fun t1 => pure t1) >>= fun t2 => modO t2 (edges.length : Int)) (we_mod (we_intI C Z (we_ixL (WE.rd (we_var C 3)) we_int)) (we_lenL C Z (WE.rd (we_var C 0)))) (by first | rfl | simp only [bind_as, pure_b])) (fun at_ =>
ws_seq (Δ := (fun (s7 : (List Int)) => [iS (tLst (tT2 tInt tInt)) edges, iS tInt count, iS (tTup tInt) hues, iS (tLst tInt) part, .on _ (oLst tInt) s7, iS tInt at_, .any])) (w1_if (WT.cast (m' := ((idx part 0) >>= fun t3 => pure (decide (t3 = 0))) >>= fun t5 => if t5 = true then pure true else (idx part 0) >>= fun t4 => pure (decide (t4 = 1))) (wt_b (wb_or (wt_eq eqs_int (we_ixL (WE.rd (we_var C 3)) we_int) we_int) (wb_or1 (wt_eq eqs_int (we_ixL (WE.rd (we_var C 3)) we_int) we_int)))) (by first | rfl | simp only [bind_as, pure_b])) (
ws_setI C 4 (WE.cast (m' := ((((idx hues at_) >>= fun t8 => pure (t8 + 1)) >>= fun t9 => (idx part 2) >>= fun t10 => pure (t9 + t10)) >>= fun t11 => pure t11) >>= fun t12 => modO t12 count) (we_mod (we_intI C Z (we_add (we_add (we_ixT (we_var C 2) (we_var C 5)) we_int) (we_ixL (WE.rd (we_var C 3)) we_int))) (we_var C 1)) (by first | rfl | simp only [bind_as, pure_b])) (WE.cast (m' := pure at_) (we_var C 5) (by first | rfl | simp only [bind_as, pure_b])) (fun changed =>
ws_fin rfl (Weak.same (Weak.same (Weak.same (Weak.same (Weak.same (Weak.same (Weak.same Weak.nil))))))))) (
ws_fin rfl (Weak.same (Weak.same (Weak.same (Weak.same (Weak.same (Weak.same (Weak.same Weak.nil))))))))) (fun s7 =>
ws_seq (Δ := (fun (s17 : (List Int)) => [iS (tLst (tT2 tInt tInt)) edges, iS tInt count, iS (tTup tInt) hues, iS (tLst tInt) part, .on _ (oLst tInt) s17, iS tInt at_, .any])) (w1_if (WT.cast (m' := (idx part 0) >>= fun t15 => pure (decide (t15 = 2))) (wt_eq eqs_int (we_ixL (WE.rd (we_var C 3)) we_int) we_int) (by first | rfl | simp only [bind_as, pure_b])) (
ws_setI C 4 (WE.cast (m' := (idx hues at_) >>= fun t18 => pure (t18 - count)) (we_sub (we_ixT (we_var C 2) (we_var C 5)) (we_var C 1)) (by first | rfl | simp only [bind_as, pure_b])) (WE.cast (m' := pure at_) (we_var C 5) (by first | rfl | simp only [bind_as, pure_b])) (fun changed =>
ws_fin rfl (Weak.same (Weak.same (Weak.same (Weak.same (Weak.same (Weak.same (Weak.same Weak.nil))))))))) (
ws_fin rfl (Weak.same (Weak.same (Weak.same (Weak.same (Weak.same (Weak.same (Weak.same Weak.nil))))))))) (fun s17 =>
ws_seq (Δ := (fun (s23 : (List Int)) => [iS (tLst (tT2 tInt tInt)) edges, iS tInt count, iS (tTup tInt) hues, iS (tLst tInt) part, .on _ (oLst tInt) s23, iS tInt at_, .any])) (w1_if (WT.cast (m' := (idx part 0) >>= fun t21 => pure (decide (t21 = 3))) (wt_eq eqs_int (we_ixL (WE.rd (we_var C 3)) we_int) we_int) (by first | rfl | simp only [bind_as, pure_b])) (
ws_setI C 4 (WE.cast (m' := (idx hues at_) >>= fun t24 => pure (t24 + count)) (we_add (we_ixT (we_var C 2) (we_var C 5)) (we_var C 1)) (by first | rfl | simp only [bind_as, pure_b])) (WE.cast (m' := pure at_) (we_var C 5) (by first | rfl | simp only [bind_as, pure_b])) (fun changed =>
ws_fin rfl (Weak.same (Weak.same (Weak.same (Weak.same (Weak.same (Weak.same (Weak.same Weak.nil))))))))) (
ws_fin rfl (Weak.same (Weak.same (Weak.same (Weak.same (Weak.same (Weak.same (Weak.same Weak.nil))))))))) (fun s23 =>
ws_seq (Δ := (fun (s29 : (List Int)) => [iS (tLst (tT2 tInt tInt)) edges, iS tInt count, iS (tTup tInt) hues, iS (tLst tInt) part, .on _ (oLst tInt) s29, iS tInt at_, .any])) (w1_if (WT.cast (m' := (idx part 0) >>= fun t27 => pure (decide (t27 = 4))) (wt_eq eqs_int (we_ixL (WE.rd (we_var C 3)) we_int) we_int) (by first | rfl | simp only [bind_as, pure_b])) (
ws_setI C 4 (WE.cast (m' := ((((idx part 2) >>= fun t30 => pure (1000000000000 * t30)) >>= fun t31 => pure ((-1) - t31)) >>= fun t33 => ((idx part 2) >>= fun t32 => pure (count + t32)) >>= fun t34 => pure [-1, count, 1000000000000000000000000000000, t33, t34]) >>= fun t37 => (((idx part 2) >>= fun t35 => pure t35) >>= fun t36 => pure (t36 % 5)) >>= fun t38 => idx t37 t38) (we_ixL (WO.rd (wo_lst (wal_cons (we_neg we_int) (wal_cons (we_var C 1) (wal_cons (we_powL 1000000000000000000000000000000 we_int we_int) (wal_cons (WE.cast (m' := ((idx part 2) >>= fun t30 => pure (1000000000000 * t30)) >>= fun t31 => pure ((-1) - t31)) (we_sub (we_neg we_int) (we_mulL (we_powL 1000000000000 we_int we_int) (we_ixL (WE.rd (we_var C 3)) we_int))) (by first | rfl | simp only [bind_as, pure_b])) (wal_cons (WE.cast (m' := (idx part 2) >>= fun t32 => pure (count + t32)) (we_add (we_var C 1) (we_ixL (WE.rd (we_var C 3)) we_int)) (by first | rfl | simp only [bind_as, pure_b])) wal_nil))))))) (we_modR (we_intI C Z (we_ixL (WE.rd (we_var C 3)) we_int)) we_int)) (by first | rfl | simp only [bind_as, pure_b])) (WE.cast (m' := pure at_) (we_var C 5) (by first | rfl | simp only [bind_as, pure_b])) (fun changed =>
ws_fin rfl (Weak.same (Weak.same (Weak.same (Weak.same (Weak.same (Weak.same (Weak.same Weak.nil))))))))) (
ws_fin rfl (Weak.same (Weak.same (Weak.same (Weak.same (Weak.same (Weak.same (Weak.same Weak.nil))))))))) (fun s29 =>
ws_seq (Δ := (fun (s45 : (List Int)) => [iS (tLst (tT2 tInt tInt)) edges, iS tInt count, iS (tTup tInt) hues, iS (tLst tInt) part, .on _ (oLst tInt) s45, iS tInt at_, .any])) (w1_if (WT.cast (m' := ((idx part 0) >>= fun t41 => pure (decide (t41 = 5))) >>= fun t43 => if t43 = true then pure true else (idx part 0) >>= fun t42 => pure (decide (t42 = 6))) (wt_b (wb_or (wt_eq eqs_int (we_ixL (WE.rd (we_var C 3)) we_int) we_int) (wb_or1 (wt_eq eqs_int (we_ixL (WE.rd (we_var C 3)) we_int) we_int)))) (by first | rfl | simp only [bind_as, pure_b])) (
ws_set C 6 (WE.cast (m' := ((idx part 0) >>= fun t46 => pure (t46 - 5)) >>= fun t47 => m_law_partnerT edges hues at_ t47) (we_call C G_law_partnerT (by decide) (wa_cons (R := (tLst (tT2 tInt tInt)).rl) (we_var C 0) fun a0 => wa_cons (R := (tTup tInt).rl) (we_var C 2) fun a1 => wa_cons (R := tInt.rl) (we_var C 5) fun a2 => wa_cons (R := tInt.rl) (WE.cast (m' := (idx part 0) >>= fun t46 => pure (t46 - 5)) (we_sub (we_ixL (WE.rd (we_var C 3)) we_int) we_int) (by first | rfl | simp only [bind_as, pure_b])) fun a3 => wa_nil fun K F H s v3 r3 v2 r2 v1 r1 v0 r0 => ⟨(a0, a1, a2, a3, ()), rfl, v0, _, rfl, r0, v1, _, rfl, r1, v2, _, rfl, r2, v3, _, rfl, r3, rfl⟩)) (by first | (simp only [pure_b, bind_as]; done) | rfl)) (fun other =>
ws_setI C 4 (WE.cast (m' := idx hues other) (we_ixT (we_var C 2) (we_var C 6)) (by first | rfl | simp only [bind_as, pure_b])) (WE.cast (m' := pure at_) (we_var C 5) (by first | rfl | simp only [bind_as, pure_b])) (fun changed =>
ws_setI C 4 (WE.cast (m' := idx hues at_) (we_ixT (we_var C 2) (we_var C 5)) (by first | rfl | simp only [bind_as, pure_b])) (WE.cast (m' := pure other) (we_var C 6) (by first | rfl | simp only [bind_as, pure_b])) (fun changed =>
ws_fin rfl (Weak.same (Weak.same (Weak.same (Weak.same (Weak.same (Weak.same (Weak.any Weak.nil))))))))))) (
ws_fin rfl (Weak.same (Weak.same (Weak.same (Weak.same (Weak.same (Weak.same (Weak.same Weak.nil))))))))) (fun s45 =>
ws_seq (Δ := (fun (s54 : (List Int)) => [iS (tLst (tT2 tInt tInt)) edges, iS tInt count, iS (tTup tInt) hues, iS (tLst tInt) part, .on _ (oLst tInt) s54, iS tInt at_, .any])) (w1_if (WT.cast (m' := (idx part 0) >>= fun t52 => pure (decide (t52 = 7))) (wt_eq eqs_int (we_ixL (WE.rd (we_var C 3)) we_int) we_int) (by first | rfl | simp only [bind_as, pure_b])) (
ws_set C 6 (WE.cast (m' := ((((idx part 1) >>= fun t55 => pure (t55 / 3)) >>= fun t56 => (idx part 2) >>= fun t57 => pure (t56 + t57)) >>= fun t58 => pure t58) >>= fun t59 => modO t59 (edges.length : Int)) (we_mod (we_intI C Z (we_add (we_divR (we_ixL (WE.rd (we_var C 3)) we_int) we_int) (we_ixL (WE.rd (we_var C 3)) we_int))) (we_lenL C Z (WE.rd (we_var C 0)))) (by first | rfl | simp only [bind_as, pure_b])) (fun other =>
ws_setI C 4 (WE.cast (m' := idx hues other) (we_ixT (we_var C 2) (we_var C 6)) (by first | rfl | simp only [bind_as, pure_b])) (WE.cast (m' := pure at_) (we_var C 5) (by first | rfl | simp only [bind_as, pure_b])) (fun changed =>
ws_setI C 4 (WE.cast (m' := idx hues at_) (we_ixT (we_var C 2) (we_var C 5)) (by first | rfl | simp only [bind_as, pure_b])) (WE.cast (m' := pure other) (we_var C 6) (by first | rfl | simp only [bind_as, pure_b])) (fun changed =>
ws_fin rfl (Weak.same (Weak.same (Weak.same (Weak.same (Weak.same (Weak.same (Weak.any Weak.nil))))))))))) (
ws_fin rfl (Weak.same (Weak.same (Weak.same (Weak.same (Weak.same (Weak.same (Weak.same Weak.nil))))))))) (fun s54 =>
ws_seq (Δ := (fun (s66 : (List Int)) => [iS (tLst (tT2 tInt tInt)) edges, iS tInt count, iS (tTup tInt) hues, iS (tLst tInt) part, .on _ (oLst tInt) s66, iS tInt at_, .any])) (w1_if (WT.cast (m' := (idx part 0) >>= fun t64 => pure (decide (t64 = 8))) (wt_eq eqs_int (we_ixL (WE.rd (we_var C 3)) we_int) we_int) (by first | rfl | simp only [bind_as, pure_b])) (
ws_setI C 4 (WE.cast (m' := ((((idx hues ((edges.length : Int) - 1)) >>= fun t67 => pure (t67 + 1)) >>= fun t68 => (idx part 2) >>= fun t69 => pure (t68 + t69)) >>= fun t70 => pure t70) >>= fun t71 => modO t71 count) (we_mod (we_intI C Z (we_add (we_add (we_ixT (we_var C 2) (we_sub (we_lenL C Z (WE.rd (we_var C 0))) we_int)) we_int) (we_ixL (WE.rd (we_var C 3)) we_int))) (we_var C 1)) (by first | rfl | simp only [bind_as, pure_b])) (WE.cast (m' := pure ((edges.length : Int) - 1)) (we_sub (we_lenL C Z (WE.rd (we_var C 0))) we_int) (by first | rfl | simp only [bind_as, pure_b])) (fun changed =>
ws_fin rfl (Weak.same (Weak.same (Weak.same (Weak.same (Weak.same (Weak.same (Weak.same Weak.nil))))))))) (
ws_fin rfl (Weak.same (Weak.same (Weak.same (Weak.same (Weak.same (Weak.same (Weak.same Weak.nil))))))))) (fun s66 =>
ws_retV C 4 hW rfl)))))))))
def b_empty_rows (edges : List ((Int × Int) × (Int × Int))) (count : Int) : Out (List (List ((Int × Int) × (List Int)))) :=
(pure [([] : List ((Int × Int) × (List Int))), ([] : List ((Int × Int) × (List Int)))]) >>= fun rows =>
((pure edges) >>= fun xs11 => forO (fun (s1 : (List (List ((Int × Int) × (List Int))))) (x2 : (Int × Int) × (Int × Int)) =>
((pure (upto 2)) >>= fun xs9 => forO (fun (s3 : (List (List ((Int × Int) × (List Int))))) (x4 : Int) =>
(repO [-1] count) >>= fun a5 => (subO (s3, fun b => b) x4) >>= fun r7 => (idx [x2.1, x2.2] x4) >>= fun j6 => aputO r7.1 j6 a5 >>= fun l8 =>
pure (r7.2 l8)) xs9 s1) >>= fun s10 =>
pure s10) xs11 rows) >>= fun s12 =>
pure s12
theorem x_empty_rows : ∃ g : (List ((Int × Int) × (Int × Int))) → Int → Out (List (List ((Int × Int) × (List Int)))), g = b_empty_rows := ⟨_, rfl⟩
def m_empty_rows : (List ((Int × Int) × (Int × Int))) → Int → Out (List (List ((Int × Int) × (List Int)))) := Classical.choose x_empty_rows
theorem m_empty_rows_eq : m_empty_rows = b_empty_rows := Classical.choose_spec x_empty_rows
abbrev P_empty_rows : Par ((List ((Int × Int) × (Int × Int))) × Int × Unit) := (pC (tTup (tT2 tK2 tK2)) (pC tInt pN))
abbrev u_empty_rows (i : (List ((Int × Int) × (Int × Int))) × Int × Unit) : Out (List (List ((Int × Int) × (List Int)))) := m_empty_rows i.1 i.2.1
theorem sc_empty_rows : FnScope ["edges", "count", "rows", "ends", "side"] ["edges", "count"] (defScope s_empty_rows) := ⟨rfl, rfl, rfl, by decide +kernel, rfl, by decide +kernel, by decide +kernel⟩
abbrev sp_empty_rows (K : PySem.W.Frag) : Sp := SpsO P_empty_rows u_empty_rows (oTu (oDi kdP (oLst tInt))) K
theorem ok_empty_rows {fd : FuncData} (Z : Fre mg) (F : FunD K "empty_rows" "empty_rows" (defArgs s_empty_rows) (defBody s_empty_rows) (defScope s_empty_rows) [] [] (He.fAd K ("empty_rows", none)) fd) (g : mg "empty_rows" = some (.ref (He.fAd K ("empty_rows", none))))   : Def Pr w K mg base 1 "empty_rows" ["edges", "count"] [] (sp_empty_rows K) := by
  refine ⟨_, fd, [], fn_bodyO F sc_empty_rows rfl (by decide) (fun X E B i e1 e2 e3 e4 e5 hW C => ?_), g, F.kp, F.bindsN (fun _ _ _ _ _ _ us hl => match us, hl with | [_, _], _ => rfl), .nil⟩
  subst e1 e2 e3 e4 e5
  obtain ⟨edges, count, _⟩ := i
  show WS X E B [iS (tTup (tT2 tK2 tK2)) edges, iS tInt count, .any, .any, .any] [_] (m_empty_rows edges count) _
  rw [m_empty_rows_eq]
  unfold b_empty_rows
  exact ws_setO C 2 (WO.cast (m' := pure [([] : List ((Int × Int) × (List Int))), ([] : List ((Int × Int) × (List Int)))]) (wo_tu2 (wo_dicP (O := (oLst tInt))) (wo_dicP (O := (oLst tInt)))) (by first | rfl | simp only [bind_as, pure_b])) (fun rows =>
ws_seq (Δ := (fun (s1 : (List (List ((Int × Int) × (List Int))))) => [iS (tTup (tT2 tK2 tK2)) edges, iS tInt count, .on _ (oTu (oDi kdP (oLst tInt))) s1, .any, .any])) (w1_for C (WI.cast (m' := pure edges) (wi_tup (we_var C 0)) (by first | rfl | simp only [bind_as, pure_b])) (wg_name C 3) (Δ := (fun (s1 : (List (List ((Int × Int) × (List Int))))) => [iS (tTup (tT2 tK2 tK2)) edges, iS tInt count, .on _ (oTu (oDi kdP (oLst tInt))) s1, .any, .any])) (s0 := rows) (Weak.same (Weak.same (Weak.same (Weak.same (Weak.same Weak.nil))))) (by exact (fun s1 x2 =>
ws_seq (Δ := (fun (s3 : (List (List ((Int × Int) × (List Int))))) => [iS (tTup (tT2 tK2 tK2)) edges, iS tInt count, .on _ (oTu (oDi kdP (oLst tInt))) s3, iS (tT2 tK2 tK2) x2, .any])) (w1_for C (WI.cast (m' := pure (upto 2)) (WI.cast (wi_range C Z we_int) rfl) (by first | rfl | simp only [bind_as, pure_b])) (wg_name C 4) (Δ := (fun (s3 : (List (List ((Int × Int) × (List Int))))) => [iS (tTup (tT2 tK2 tK2)) edges, iS tInt count, .on _ (oTu (oDi kdP (oLst tInt))) s3, iS (tT2 tK2 tK2) x2, .any])) (s0 := s1) (Weak.same (Weak.same (Weak.same (Weak.same (Weak.same Weak.nil))))) (by exact (fun s3 x4 =>
ws_lput (KD := kdP) C 2 (WO.cast (m' := repO [-1] count) (wo_rep (WO.rh (wo_lst (wal_cons (we_neg we_int) wal_nil))) (we_var C 1)) (by first | rfl | simp only [bind_as, pure_b])) (WL.cast (m' := subO (s3, fun b => b) x4) (wl_ixT (wl_var C 2) (we_var C 4)) (by first | rfl | simp only [bind_as, pure_b])) (WE.cast (m' := idx [x2.1, x2.2] x4) (we_ixT (WE.map (we_var C 3) (fun (a : (Int × Int) × (Int × Int)) => [a.1, a.2]) t2_tup) (we_var C 4)) (by first | rfl | simp only [bind_as, pure_b])) (fun r7 l8 =>
ws_fin rfl (Weak.same (Weak.same (Weak.same (Weak.same (Weak.any Weak.nil))))))))) (fun s10 =>
ws_fin rfl (Weak.same (Weak.same (Weak.same (Weak.any (Weak.same Weak.nil))))))))) (fun s12 =>
ws_retV C 2 hW rfl))
def b_set_edge (rows : List (List ((Int × Int) × (List Int)))) (ends : List (Int × Int)) (hue : Int) (index : Int) : Out ((List (List ((Int × Int) × (List Int)))) × Unit) :=
((pure (upto 2)) >>= fun xs9 => forO (fun (s1 : (List (List ((Int × Int) × (List Int))))) (x2 : Int) =>
(pure index) >>= fun a5 => ((subO (s1, fun b => b) x2) >>= fun t3 => (idx ends x2) >>= fun t4 => subD t3 t4) >>= fun r7 => (pure hue) >>= fun j6 => setO r7.1 j6 a5 >>= fun l8 =>
pure (r7.2 l8)) xs9 rows) >>= fun s10 =>
pure (s10, ())
theorem x_set_edge : ∃ g : (List (List ((Int × Int) × (List Int)))) → (List (Int × Int)) → Int → Int → Out ((List (List ((Int × Int) × (List Int)))) × Unit), g = b_set_edge := ⟨_, rfl⟩
def m_set_edge : (List (List ((Int × Int) × (List Int)))) → (List (Int × Int)) → Int → Int → Out ((List (List ((Int × Int) × (List Int)))) × Unit) := Classical.choose x_set_edge
theorem m_set_edge_eq : m_set_edge = b_set_edge := Classical.choose_spec x_set_edge
abbrev P_set_edge : ParG ((List (List ((Int × Int) × (List Int)))) × (List (Int × Int)) × Int × Int × Unit) ((List (List ((Int × Int) × (List Int)))) × Unit) := (gO (oTu (oDi kdP (oLst tInt))) (gI (tTup tK2) (gI tInt (gI tInt gN))))
abbrev u_set_edge (i : (List (List ((Int × Int) × (List Int)))) × (List (Int × Int)) × Int × Int × Unit) : Out ((List (List ((Int × Int) × (List Int)))) × Unit) := m_set_edge i.1 i.2.1 i.2.2.1 i.2.2.2.1
theorem sc_set_edge : FnScope ["rows", "ends", "hue", "index", "side"] ["rows", "ends", "hue", "index"] (defScope s_set_edge) := ⟨rfl, rfl, rfl, by decide +kernel, rfl, by decide +kernel, by decide +kernel⟩
abbrev sp_set_edge (K : PySem.W.Frag) : Sp := SpsP P_set_edge u_set_edge K
theorem ok_set_edge {fd : FuncData} (Z : Fre mg) (F : FunD K "set_edge" "set_edge" (defArgs s_set_edge) (defBody s_set_edge) (defScope s_set_edge) [] [] (He.fAd K ("set_edge", none)) fd) (g : mg "set_edge" = some (.ref (He.fAd K ("set_edge", none))))   : Def Pr w K mg base 1 "set_edge" ["rows", "ends", "hue", "index"] [] (sp_set_edge K) := by
  refine ⟨_, fd, [], fn_bodyP F sc_set_edge rfl (by decide) (fun X E B vs i e1 e2 e3 e4 e5 C hl => ?_), g, F.kp, F.bindsN (fun _ _ _ _ _ _ us hl => match us, hl with | [_, _, _, _], _ => rfl), .nil⟩
  subst e1 e2 e3 e4 e5
  obtain ⟨rows, ends, hue, index, _⟩ := i
  match vs, hl with
  | [v0, v1, v2, v3], _ =>
  show WS X E B [.on _ (oIs v0 (oTu (oDi kdP (oLst tInt)))) rows, iS (tTup tK2) ends, iS tInt hue, iS tInt index, .any] [_] (m_set_edge rows ends hue index) (fun o => .nx (P_set_edge.os [v0, v1, v2, v3] o ++ anyS 1))
  rw [m_set_edge_eq]
  unfold b_set_edge
  exact ws_seq (Δ := (fun (s1 : (List (List ((Int × Int) × (List Int))))) => [.on _ (oIs v0 (oTu (oDi kdP (oLst tInt)))) s1, iS (tTup tK2) ends, iS tInt hue, iS tInt index, .any])) (w1_for C (WI.cast (m' := pure (upto 2)) (WI.cast (wi_range C Z we_int) rfl) (by first | rfl | simp only [bind_as, pure_b])) (wg_name C 4) (Δ := (fun (s1 : (List (List ((Int × Int) × (List Int))))) => [.on _ (oIs v0 (oTu (oDi kdP (oLst tInt)))) s1, iS (tTup tK2) ends, iS tInt hue, iS tInt index, .any])) (s0 := rows) (Weak.same (Weak.same (Weak.same (Weak.same (Weak.same Weak.nil))))) (by exact (fun s1 x2 =>
ws_lset 0 (WE.cast (m' := pure index) (we_var C 3) (by first | rfl | simp only [bind_as, pure_b])) (WL.cast (m' := (subO (s1, fun b => b) x2) >>= fun t3 => (idx ends x2) >>= fun t4 => subD t3 t4) (wl_dget (KD := kdP) C (wl_ixT (wl_is C 0) (we_var C 4)) (we_ixT (we_var C 1) (we_var C 4))) (by first | rfl | simp only [bind_as, pure_b])) (WE.cast (m' := pure hue) (we_var C 2) (by first | rfl | simp only [bind_as, pure_b])) (fun r7 l8 =>
ws_fin rfl (Weak.same (Weak.same (Weak.same (Weak.same (Weak.any Weak.nil))))))))) (fun s10 =>
ws_fin (Δ := [.on _ (oIs v0 (oTu (oDi kdP (oLst tInt)))) s10, .any, .any, .any, .any]) rfl (Weak.same (Weak.any (Weak.any (Weak.any (Weak.same Weak.nil))))))
def b_chain_of (edges : List ((Int × Int) × (Int × Int))) (rows : List (List ((Int × Int) × (List Int)))) (right : Int × Int) (one : Int) (other : Int) : Out (List Int) :=
(pure ([] : List Int)) >>= fun chain =>
(pure 1) >>= fun u1 => (pure right) >>= fun u2 => (pure one) >>= fun u3 => 
(whileO (fun (s4 : Int × (Int × Int) × Int × (List Int)) => (((idx rows s4.1) >>= fun t5 => agetO t5 s4.2.1) >>= fun t6 => idx t6 s4.2.2.1) >>= fun t7 => pure (decide (0 ≤ t7))) (fun (s4 : Int × (Int × Int) × Int × (List Int)) =>
(((idx rows s4.1) >>= fun t8 => agetO t8 s4.2.1) >>= fun t9 => idx t9 s4.2.2.1) >>= fun index =>
(pure index) >>= fun a10 => appO s4.2.2.2 a10 >>= fun chain =>
(pure (1 - s4.1)) >>= fun side =>
(((idx edges index) >>= fun t11 => pure [t11.1, t11.2]) >>= fun t12 => idx t12 side) >>= fun end_ =>
(pure ((one + other) - s4.2.2.1)) >>= fun hue =>
pure (side, end_, hue, chain)) FUEL (u1, u2, u3, chain)) >>= fun s13 =>
pure s13.2.2.2
theorem x_chain_of : ∃ g : (List ((Int × Int) × (Int × Int))) → (List (List ((Int × Int) × (List Int)))) → (Int × Int) → Int → Int → Out (List Int), g = b_chain_of := ⟨_, rfl⟩
def m_chain_of : (List ((Int × Int) × (Int × Int))) → (List (List ((Int × Int) × (List Int)))) → (Int × Int) → Int → Int → Out (List Int) := Classical.choose x_chain_of
theorem m_chain_of_eq : m_chain_of = b_chain_of := Classical.choose_spec x_chain_of
abbrev P_chain_of : ParG ((List ((Int × Int) × (Int × Int))) × (List (List ((Int × Int) × (List Int)))) × (Int × Int) × Int × Int × Unit) (Unit) := (gI (tTup (tT2 tK2 tK2)) (gB (oTu (oDi kdP (oLst tInt))) (gI tK2 (gI tInt (gI tInt gN)))))
abbrev u_chain_of (i : (List ((Int × Int) × (Int × Int))) × (List (List ((Int × Int) × (List Int)))) × (Int × Int) × Int × Int × Unit) : Out (List Int) := m_chain_of i.1 i.2.1 i.2.2.1 i.2.2.2.1 i.2.2.2.2.1
theorem sc_chain_of : FnScope ["edges", "rows", "right", "one", "other", "chain", "side", "end", "hue", "index"] ["edges", "rows", "right", "one", "other"] (defScope s_chain_of) := ⟨rfl, rfl, rfl, by decide +kernel, rfl, by decide +kernel, by decide +kernel⟩
abbrev sp_chain_of (K : PySem.W.Frag) : Sp := SpsB P_chain_of u_chain_of (tLst tInt) K
theorem ok_chain_of {fd : FuncData} (Z : Fre mg) (F : FunD K "chain_of" "chain_of" (defArgs s_chain_of) (defBody s_chain_of) (defScope s_chain_of) [] [] (He.fAd K ("chain_of", none)) fd) (g : mg "chain_of" = some (.ref (He.fAd K ("chain_of", none))))   : Def Pr w K mg base 1 "chain_of" ["edges", "rows", "right", "one", "other"] [] (sp_chain_of K) := by
  refine ⟨_, fd, [], fn_bodyB F sc_chain_of rfl (by decide) (fun X E B vs i e1 e2 e3 e4 e5 hW C hl => ?_), g, F.kp, F.bindsN (fun _ _ _ _ _ _ us hl => match us, hl with | [_, _, _, _, _], _ => rfl), .nil⟩
  subst e1 e2 e3 e4 e5
  obtain ⟨edges, rows, right, one, other, _⟩ := i
  match vs, hl with
  | [v0, v1, v2, v3, v4], _ =>
  show WS X E B [iS (tTup (tT2 tK2 tK2)) edges, iS (tBor B (oTu (oDi kdP (oLst tInt)))) rows, iS tK2 right, iS tInt one, iS tInt other, .any, .any, .any, .any, .any] [_] (m_chain_of edges rows right one other) _
  rw [m_chain_of_eq]
  unfold b_chain_of
  exact ws_setO C 5 (WO.cast (m' := pure ([] : List Int)) (wo_lst (wal_nil (T := tInt))) (by first | rfl | simp only [bind_as, pure_b])) (fun chain =>
ws_par3 C 6 7 8 (WE.cast (m' := pure 1) we_int (by first | rfl | simp only [bind_as, pure_b])) (WE.cast (m' := pure right) (we_var C 2) (by first | rfl | simp only [bind_as, pure_b])) (WE.cast (m' := pure one) (we_var C 3) (by first | rfl | simp only [bind_as, pure_b])) (fun u1 u2 u3 =>
ws_seq (Δ := (fun (s4 : Int × (Int × Int) × Int × (List Int)) => [iS (tTup (tT2 tK2 tK2)) edges, iS (tBor B (oTu (oDi kdP (oLst tInt)))) rows, iS tK2 right, iS tInt one, iS tInt other, .on _ (oLst tInt) s4.2.2.2, iS tInt s4.1, iS tK2 s4.2.1, iS tInt s4.2.2.1, .any])) (w1_while C (Δ := (fun (s4 : Int × (Int × Int) × Int × (List Int)) => [iS (tTup (tT2 tK2 tK2)) edges, iS (tBor B (oTu (oDi kdP (oLst tInt)))) rows, iS tK2 right, iS tInt one, iS tInt other, .on _ (oLst tInt) s4.2.2.2, iS tInt s4.1, iS tK2 s4.2.1, iS tInt s4.2.2.1, .any])) (s0 := (u1, u2, u3, chain)) FUEL (Weak.same (Weak.same (Weak.same (Weak.same (Weak.same (Weak.same (Weak.same (Weak.same (Weak.same (Weak.same Weak.nil)))))))))) (fun s4 => WT.cast (m' := (((idx rows s4.1) >>= fun t5 => agetO t5 s4.2.1) >>= fun t6 => idx t6 s4.2.2.1) >>= fun t7 => pure (decide (0 ≤ t7))) (wt_ge (we_ixL (WE.hr (WE.vl (we_vdget (KD := kdP) C (we_vixT (we_bor C 1) (we_var C 6)) (we_var C 7)))) (we_var C 8)) we_int) (by first | rfl | simp only [bind_as, pure_b])) (by exact (fun s4 =>
ws_set C 9 (WE.cast (m' := ((idx rows s4.1) >>= fun t8 => agetO t8 s4.2.1) >>= fun t9 => idx t9 s4.2.2.1) (we_ixL (WE.hr (WE.vl (we_vdget (KD := kdP) C (we_vixT (we_bor C 1) (we_var C 6)) (we_var C 7)))) (we_var C 8)) (by first | rfl | simp only [bind_as, pure_b])) (fun index =>
ws_app C 5 (WE.cast (m' := pure index) (we_var C 9) (by first | rfl | simp only [bind_as, pure_b])) (fun chain =>
ws_set C 6 (WE.cast (m' := pure (1 - s4.1)) (we_sub we_int (we_var C 6)) (by first | rfl | simp only [bind_as, pure_b])) (fun side =>
ws_set C 7 (WE.cast (m' := ((idx edges index) >>= fun t11 => pure [t11.1, t11.2]) >>= fun t12 => idx t12 side) (we_ixT (WE.map (we_ixT (we_var C 0) (we_var C 9)) (fun (a : (Int × Int) × (Int × Int)) => [a.1, a.2]) t2_tup) (we_var C 6)) (by first | rfl | simp only [bind_as, pure_b])) (fun end_ =>
ws_set C 8 (WE.cast (m' := pure ((one + other) - s4.2.2.1)) (we_sub (we_add (we_var C 3) (we_var C 4)) (we_var C 8)) (by first | rfl | simp only [bind_as, pure_b])) (fun hue =>
ws_fin rfl (Weak.same (Weak.same (Weak.same (Weak.same (Weak.same (Weak.same (Weak.same (Weak.same (Weak.same (Weak.any Weak.nil)))))))))))))))))) (fun s13 =>
ws_fz 5 (fz_lst _) hW rfl (
ws_ret0 (WE.cast (m' := pure s13.2.2.2) (we_var C 5) (by first | rfl | simp only [bind_as, pure_b])) (fun _ => rfl)))))
def b_turn_chain (edges : List ((Int × Int) × (Int × Int))) (hues : List Int) (rows : List (List ((Int × Int) × (List Int)))) (chain : List Int) (both : Int) : Out ((List Int) × (List (List ((Int × Int) × (List Int)))) × Unit) :=
((pure chain) >>= fun xs7 => forO (fun (s1 : (List (List ((Int × Int) × (List Int))))) (x2 : Int) =>
(((idx edges x2) >>= fun t3 => pure [t3.1, t3.2]) >>= fun t4 => (idx hues x2) >>= fun t5 => m_set_edge s1 t4 t5 (-1)) >>= fun o6 =>
pure o6.1) xs7 rows) >>= fun s8 =>
((pure chain) >>= fun xs20 => forO (fun (s9 : (List Int) × (List (List ((Int × Int) × (List Int))))) (x10 : Int) =>
((idx s9.1 x10) >>= fun t15 => pure (both - t15)) >>= fun a11 => (pure (s9.1, fun b => b)) >>= fun r13 => (pure x10) >>= fun j12 => setO r13.1 j12 a11 >>= fun l14 =>
(((idx edges x10) >>= fun t16 => pure [t16.1, t16.2]) >>= fun t17 => (idx (r13.2 l14) x10) >>= fun t18 => m_set_edge s9.2 t17 t18 x10) >>= fun o19 =>
pure (r13.2 l14, o19.1)) xs20 (hues, s8)) >>= fun s21 =>
pure (s21.1, s21.2, ())
theorem x_turn_chain : ∃ g : (List ((Int × Int) × (Int × Int))) → (List Int) → (List (List ((Int × Int) × (List Int)))) → (List Int) → Int → Out ((List Int) × (List (List ((Int × Int) × (List Int)))) × Unit), g = b_turn_chain := ⟨_, rfl⟩
def m_turn_chain : (List ((Int × Int) × (Int × Int))) → (List Int) → (List (List ((Int × Int) × (List Int)))) → (List Int) → Int → Out ((List Int) × (List (List ((Int × Int) × (List Int)))) × Unit) := Classical.choose x_turn_chain
theorem m_turn_chain_eq : m_turn_chain = b_turn_chain := Classical.choose_spec x_turn_chain
abbrev P_turn_chain : ParG ((List ((Int × Int) × (Int × Int))) × (List Int) × (List (List ((Int × Int) × (List Int)))) × (List Int) × Int × Unit) ((List Int) × (List (List ((Int × Int) × (List Int)))) × Unit) := (gI (tTup (tT2 tK2 tK2)) (gO (oLst tInt) (gO (oTu (oDi kdP (oLst tInt))) (gI (tLst tInt) (gI tInt gN)))))
abbrev u_turn_chain (i : (List ((Int × Int) × (Int × Int))) × (List Int) × (List (List ((Int × Int) × (List Int)))) × (List Int) × Int × Unit) : Out ((List Int) × (List (List ((Int × Int) × (List Int)))) × Unit) := m_turn_chain i.1 i.2.1 i.2.2.1 i.2.2.2.1 i.2.2.2.2.1
theorem sc_turn_chain : FnScope ["edges", "hues", "rows", "chain", "both", "index"] ["edges", "hues", "rows", "chain", "both"] (defScope s_turn_chain) := ⟨rfl, rfl, rfl, by decide +kernel, rfl, by decide +kernel, by decide +kernel⟩
abbrev sp_turn_chain (K : PySem.W.Frag) : Sp := SpsP P_turn_chain u_turn_chain K
theorem ok_turn_chain {fd : FuncData} (Z : Fre mg) (F : FunD K "turn_chain" "turn_chain" (defArgs s_turn_chain) (defBody s_turn_chain) (defScope s_turn_chain) [] [] (He.fAd K ("turn_chain", none)) fd) (g : mg "turn_chain" = some (.ref (He.fAd K ("turn_chain", none)))) (G_set_edge : Def Pr w K mg base 1 "set_edge" ["rows", "ends", "hue", "index"] [] (sp_set_edge K))  : Def Pr w K mg base 2 "turn_chain" ["edges", "hues", "rows", "chain", "both"] [] (sp_turn_chain K) := by
  refine ⟨_, fd, [], fn_bodyP F sc_turn_chain rfl (by decide) (fun X E B vs i e1 e2 e3 e4 e5 C hl => ?_), g, F.kp, F.bindsN (fun _ _ _ _ _ _ us hl => match us, hl with | [_, _, _, _, _], _ => rfl), .nil⟩
  subst e1 e2 e3 e4 e5
  obtain ⟨edges, hues, rows, chain, both, _⟩ := i
  match vs, hl with
  | [v0, v1, v2, v3, v4], _ =>
  show WS X E B [iS (tTup (tT2 tK2 tK2)) edges, .on _ (oIs v1 (oLst tInt)) hues, .on _ (oIs v2 (oTu (oDi kdP (oLst tInt)))) rows, iS (tLst tInt) chain, iS tInt both, .any] [_] (m_turn_chain edges hues rows chain both) (fun o => .nx (P_turn_chain.os [v0, v1, v2, v3, v4] o ++ anyS 1))
  rw [m_turn_chain_eq]
  unfold b_turn_chain
  exact ws_seq (Δ := (fun (s1 : (List (List ((Int × Int) × (List Int))))) => [iS (tTup (tT2 tK2 tK2)) edges, .on _ (oIs v1 (oLst tInt)) hues, .on _ (oIs v2 (oTu (oDi kdP (oLst tInt)))) s1, iS (tLst tInt) chain, iS tInt both, .any])) (w1_for C (WI.cast (m' := pure chain) (wi_lst (we_var C 3)) (by first | rfl | simp only [bind_as, pure_b])) (wg_name C 5) (Δ := (fun (s1 : (List (List ((Int × Int) × (List Int))))) => [iS (tTup (tT2 tK2 tK2)) edges, .on _ (oIs v1 (oLst tInt)) hues, .on _ (oIs v2 (oTu (oDi kdP (oLst tInt)))) s1, iS (tLst tInt) chain, iS tInt both, .any])) (s0 := rows) (Weak.same (Weak.same (Weak.same (Weak.same (Weak.same (Weak.same Weak.nil)))))) (by exact (fun s1 x2 =>
ws_callP C G_set_edge (by decide) [some 2, none, none, none] _ (new_s (new_i (new_i (new_i new_n)))) (WAs.cast (m' := ((idx edges x2) >>= fun t3 => pure [t3.1, t3.2]) >>= fun t4 => (idx hues x2) >>= fun t5 => m_set_edge s1 t4 t5 (-1)) (was_io C 2 (was_cons (R := (tTup tK2).rl) (WE.cast (m' := (idx edges x2) >>= fun t3 => pure [t3.1, t3.2]) (WE.map (we_ixT (we_var C 0) (we_var C 5)) (fun (a : (Int × Int) × (Int × Int)) => [a.1, a.2]) t2_tup) (by first | rfl | simp only [bind_as, pure_b])) fun a1 => was_cons (R := tInt.rl) (WE.cast (m' := idx hues x2) (we_ixL (WE.hr (WE.vl (we_vwi C 1))) (we_var C 5)) (by first | rfl | simp only [bind_as, pure_b])) fun a2 => was_cons (R := tInt.rl) (we_neg we_int) fun a3 => was_nil fun σ ω F H en v3 r3 v2 r2 v1 r1 v0 r0 => ⟨⟨⟨v0, rfl, r0⟩, trivial⟩, (s1, a1, a2, a3, ()), rfl, v0, _, rfl, (io_is en 2 r0), v1, _, rfl, r1, v2, _, rfl, r2, v3, _, rfl, r3, rfl⟩)) (by first | (simp only [pure_b, bind_as]; done) | rfl)) (fun o6 =>
ws_fin rfl (Weak.same (Weak.same (Weak.same (Weak.same (Weak.same (Weak.any Weak.nil)))))))))) (fun s8 =>
ws_seq (Δ := (fun (s9 : (List Int) × (List (List ((Int × Int) × (List Int))))) => [iS (tTup (tT2 tK2 tK2)) edges, .on _ (oIs v1 (oLst tInt)) s9.1, .on _ (oIs v2 (oTu (oDi kdP (oLst tInt)))) s9.2, iS (tLst tInt) chain, iS tInt both, .any])) (w1_for C (WI.cast (m' := pure chain) (wi_lst (we_var C 3)) (by first | rfl | simp only [bind_as, pure_b])) (wg_name C 5) (Δ := (fun (s9 : (List Int) × (List (List ((Int × Int) × (List Int))))) => [iS (tTup (tT2 tK2 tK2)) edges, .on _ (oIs v1 (oLst tInt)) s9.1, .on _ (oIs v2 (oTu (oDi kdP (oLst tInt)))) s9.2, iS (tLst tInt) chain, iS tInt both, .any])) (s0 := (hues, s8)) (Weak.same (Weak.same (Weak.same (Weak.same (Weak.same (Weak.same Weak.nil)))))) (by exact (fun s9 x10 =>
ws_lset 1 (WE.cast (m' := (idx s9.1 x10) >>= fun t15 => pure (both - t15)) (we_sub (we_var C 4) (we_ixL (WE.hr (WE.vl (we_vwi C 1))) (we_var C 5))) (by first | rfl | simp only [bind_as, pure_b])) (WL.cast (m' := pure (s9.1, fun b => b)) (wl_is C 1) (by first | rfl | simp only [bind_as, pure_b])) (WE.cast (m' := pure x10) (we_var C 5) (by first | rfl | simp only [bind_as, pure_b])) (fun r13 l14 =>
ws_callP C G_set_edge (by decide) [some 2, none, none, none] _ (new_s (new_i (new_i (new_i new_n)))) (WAs.cast (m' := ((idx edges x10) >>= fun t16 => pure [t16.1, t16.2]) >>= fun t17 => (idx (r13.2 l14) x10) >>= fun t18 => m_set_edge s9.2 t17 t18 x10) (was_io C 2 (was_cons (R := (tTup tK2).rl) (WE.cast (m' := (idx edges x10) >>= fun t16 => pure [t16.1, t16.2]) (WE.map (we_ixT (we_var C 0) (we_var C 5)) (fun (a : (Int × Int) × (Int × Int)) => [a.1, a.2]) t2_tup) (by first | rfl | simp only [bind_as, pure_b])) fun a1 => was_cons (R := tInt.rl) (WE.cast (m' := idx (r13.2 l14) x10) (we_ixL (WE.hr (WE.vl (we_vwi C 1))) (we_var C 5)) (by first | rfl | simp only [bind_as, pure_b])) fun a2 => was_cons (R := tInt.rl) (we_var C 5) fun a3 => was_nil fun σ ω F H en v3 r3 v2 r2 v1 r1 v0 r0 => ⟨⟨⟨v0, rfl, r0⟩, trivial⟩, (s9.2, a1, a2, a3, ()), rfl, v0, _, rfl, (io_is en 2 r0), v1, _, rfl, r1, v2, _, rfl, r2, v3, _, rfl, r3, rfl⟩)) (by first | (simp only [pure_b, bind_as]; done) | rfl)) (fun o19 =>
ws_fin rfl (Weak.same (Weak.same (Weak.same (Weak.same (Weak.same (Weak.any Weak.nil))))))))))) (fun s21 =>
ws_fin (Δ := [.any, .on _ (oIs v1 (oLst tInt)) s21.1, .on _ (oIs v2 (oTu (oDi kdP (oLst tInt)))) s21.2, .any, .any, .any]) rfl (Weak.any (Weak.same (Weak.same (Weak.any (Weak.any (Weak.same Weak.nil))))))))
def b_proper_hues (edges : List ((Int × Int) × (Int × Int))) (count : Int) : Out (List Int) :=
(m_empty_rows edges count) >>= fun rows =>
(repO [-1] (edges.length : Int)) >>= fun hues =>
((pure (enumL edges)) >>= fun xs14 => forO (fun (s1 : (List Int) × (List (List ((Int × Int) × (List Int))))) (x2 : Int × ((Int × Int) × (Int × Int))) =>
(((idx s1.2 0) >>= fun t3 => agetO t3 x2.2.1) >>= fun t4 => indexO t4 (-1)) >>= fun one =>
(((idx s1.2 1) >>= fun t5 => agetO t5 x2.2.2) >>= fun t6 => indexO t6 (-1)) >>= fun other =>
((pure (!decide (one = other))) >>= fun c7 => if c7 = true then (
((m_chain_of edges s1.2 x2.2.2 one other) >>= fun t9 => m_turn_chain edges s1.1 s1.2 t9 (one + other)) >>= fun o10 =>
pure (o10.1, o10.2.1))
else (
pure (s1.1, s1.2))) >>= fun s8 =>
(pure one) >>= fun a11 => (pure x2.1) >>= fun j12 => setO s8.1 j12 a11 >>= fun hues =>
(m_set_edge s8.2 [x2.2.1, x2.2.2] one x2.1) >>= fun o13 =>
pure (hues, o13.1)) xs14 (hues, rows)) >>= fun s15 =>
pure s15.1
theorem x_proper_hues : ∃ g : (List ((Int × Int) × (Int × Int))) → Int → Out (List Int), g = b_proper_hues := ⟨_, rfl⟩
def m_proper_hues : (List ((Int × Int) × (Int × Int))) → Int → Out (List Int) := Classical.choose x_proper_hues
theorem m_proper_hues_eq : m_proper_hues = b_proper_hues := Classical.choose_spec x_proper_hues
abbrev P_proper_hues : Par ((List ((Int × Int) × (Int × Int))) × Int × Unit) := (pC (tTup (tT2 tK2 tK2)) (pC tInt pN))
abbrev u_proper_hues (i : (List ((Int × Int) × (Int × Int))) × Int × Unit) : Out (List Int) := m_proper_hues i.1 i.2.1
theorem sc_proper_hues : FnScope ["edges", "count", "rows", "hues", "index", "left", "right", "one", "other"] ["edges", "count"] (defScope s_proper_hues) := ⟨rfl, rfl, rfl, by decide +kernel, rfl, by decide +kernel, by decide +kernel⟩
abbrev sp_proper_hues (K : PySem.W.Frag) : Sp := Sps P_proper_hues u_proper_hues (tTup tInt) K
theorem ok_proper_hues {fd : FuncData} (Z : Fre mg) (F : FunD K "proper_hues" "proper_hues" (defArgs s_proper_hues) (defBody s_proper_hues) (defScope s_proper_hues) [] [] (He.fAd K ("proper_hues", none)) fd) (g : mg "proper_hues" = some (.ref (He.fAd K ("proper_hues", none)))) (G_empty_rows : Def Pr w K mg base 1 "empty_rows" ["edges", "count"] [] (sp_empty_rows K)) (G_turn_chain : Def Pr w K mg base 2 "turn_chain" ["edges", "hues", "rows", "chain", "both"] [] (sp_turn_chain K)) (G_chain_of : Def Pr w K mg base 1 "chain_of" ["edges", "rows", "right", "one", "other"] [] (sp_chain_of K)) (G_set_edge : Def Pr w K mg base 1 "set_edge" ["rows", "ends", "hue", "index"] [] (sp_set_edge K))  : Def Pr w K mg base 3 "proper_hues" ["edges", "count"] [] (sp_proper_hues K) := by
  refine ⟨_, fd, [], fn_body F sc_proper_hues rfl (by decide) (fun X E B i e1 e2 e3 e4 e5 hW C => ?_), g, F.kp, F.bindsN (fun _ _ _ _ _ _ us hl => match us, hl with | [_, _], _ => rfl), .nil⟩
  subst e1 e2 e3 e4 e5
  obtain ⟨edges, count, _⟩ := i
  show WS X E B [iS (tTup (tT2 tK2 tK2)) edges, iS tInt count, .any, .any, .any, .any, .any, .any, .any] [_] (m_proper_hues edges count) _
  rw [m_proper_hues_eq]
  unfold b_proper_hues
  exact ws_setO C 2 (WO.cast (m' := m_empty_rows edges count) (wo_call C G_empty_rows (by decide) (wa_cons (R := (tTup (tT2 tK2 tK2)).rl) (we_var C 0) fun a0 => wa_cons (R := tInt.rl) (we_var C 1) fun a1 => wa_nil fun K F H s v1 r1 v0 r0 => ⟨(a0, a1, ()), rfl, v0, _, rfl, r0, v1, _, rfl, r1, rfl⟩)) (by first | (simp only [pure_b, bind_as]; done) | rfl)) (fun rows =>
ws_setO C 3 (WO.cast (m' := repO [-1] (edges.length : Int)) (wo_rep (WO.rh (wo_lst (wal_cons (we_neg we_int) wal_nil))) (we_lenT C Z (we_var C 0))) (by first | rfl | simp only [bind_as, pure_b])) (fun hues =>
ws_seq (Δ := (fun (s1 : (List Int) × (List (List ((Int × Int) × (List Int))))) => [iS (tTup (tT2 tK2 tK2)) edges, iS tInt count, .on _ (oTu (oDi kdP (oLst tInt))) s1.2, .on _ (oLst tInt) s1.1, .any, .any, .any, .any, .any])) (w1_for C (WI.cast (m' := pure (enumL edges)) (wi_enumT C Z (we_var C 0)) (by first | rfl | simp only [bind_as, pure_b])) (wg_t2 C (wg_name C 4) (wg_t2 C (wg_name C 5) (wg_name C 6))) (Δ := (fun (s1 : (List Int) × (List (List ((Int × Int) × (List Int))))) => [iS (tTup (tT2 tK2 tK2)) edges, iS tInt count, .on _ (oTu (oDi kdP (oLst tInt))) s1.2, .on _ (oLst tInt) s1.1, .any, .any, .any, .any, .any])) (s0 := (hues, rows)) (Weak.same (Weak.same (Weak.same (Weak.same (Weak.same (Weak.same (Weak.same (Weak.same (Weak.same Weak.nil))))))))) (by exact (fun s1 x2 =>
ws_set C 7 (WE.cast (m' := ((idx s1.2 0) >>= fun t3 => agetO t3 x2.2.1) >>= fun t4 => indexO t4 (-1)) (we_indexL C eqf_int (WE.hr (WE.vl (we_vdget (KD := kdP) C (we_vixT (we_vw C 2) we_int) (we_var C 5)))) (we_neg we_int)) (by first | rfl | simp only [bind_as, pure_b])) (fun one =>
ws_set C 8 (WE.cast (m' := ((idx s1.2 1) >>= fun t5 => agetO t5 x2.2.2) >>= fun t6 => indexO t6 (-1)) (we_indexL C eqf_int (WE.hr (WE.vl (we_vdget (KD := kdP) C (we_vixT (we_vw C 2) we_int) (we_var C 6)))) (we_neg we_int)) (by first | rfl | simp only [bind_as, pure_b])) (fun other =>
ws_seq (Δ := (fun (s8 : (List Int) × (List (List ((Int × Int) × (List Int))))) => [iS (tTup (tT2 tK2 tK2)) edges, iS tInt count, .on _ (oTu (oDi kdP (oLst tInt))) s8.2, .on _ (oLst tInt) s8.1, iS tInt x2.1, iS tK2 x2.2.1, iS tK2 x2.2.2, iS tInt one, iS tInt other])) (w1_if (WT.cast (m' := pure (!decide (one = other))) (wt_ne eqs_int (we_var C 7) (we_var C 8)) (by first | rfl | simp only [bind_as, pure_b])) (
ws_callP C G_turn_chain (by decide) [none, some 3, some 2, none, none] _ (new_i (new_o (new_o (new_i (new_i new_n))))) (WAs.cast (m' := (m_chain_of edges s1.2 x2.2.2 one other) >>= fun t9 => m_turn_chain edges s1.1 s1.2 t9 (one + other)) (was_cons (R := (tTup (tT2 tK2 tK2)).rl) (we_var C 0) fun a0 => was_io C 3 (was_io C 2 (was_cons (R := (tLst tInt).rl) (WE.cast (m' := m_chain_of edges s1.2 x2.2.2 one other) (we_callB C G_chain_of (by decide) (was_cons (R := (tTup (tT2 tK2 tK2)).rl) (we_var C 0) fun a0 => was_io C 2 (was_cons (R := tK2.rl) (we_var C 6) fun a2 => was_cons (R := tInt.rl) (we_var C 7) fun a3 => was_cons (R := tInt.rl) (we_var C 8) fun a4 => was_nil fun σ ω F H en v4 r4 v3 r3 v2 r2 v1 r1 v0 r0 => ⟨(a0, s1.2, a2, a3, a4, ()), rfl, v0, _, rfl, r0, v1, _, rfl, (bo_no (bo_own (is := []) en 2 r1)), v2, _, rfl, r2, v3, _, rfl, r3, v4, _, rfl, r4, rfl⟩))) (by first | (simp only [pure_b, bind_as]; done) | rfl)) fun a3 => was_cons (R := tInt.rl) (we_add (we_var C 7) (we_var C 8)) fun a4 => was_nil fun σ ω F H en v4 r4 v3 r3 v2 r2 v1 r1 v0 r0 => ⟨⟨⟨v1, rfl, r1⟩, ⟨⟨v2, rfl, r2⟩, trivial⟩⟩, (a0, s1.1, s1.2, a3, a4, ()), rfl, v0, _, rfl, r0, v1, _, rfl, (io_own en 3 r1), v2, _, rfl, (io_own en 2 r2), v3, _, rfl, r3, v4, _, rfl, r4, rfl⟩))) (by first | (simp only [pure_b, bind_as]; done) | rfl)) (fun o10 =>
ws_fin rfl (Weak.same (Weak.same (Weak.same (Weak.same (Weak.same (Weak.same (Weak.same (Weak.same (Weak.same Weak.nil))))))))))) (
ws_fin rfl (Weak.same (Weak.same (Weak.same (Weak.same (Weak.same (Weak.same (Weak.same (Weak.same (Weak.same Weak.nil))))))))))) (fun s8 =>
ws_setI C 3 (WE.cast (m' := pure one) (we_var C 7) (by first | rfl | simp only [bind_as, pure_b])) (WE.cast (m' := pure x2.1) (we_var C 4) (by first | rfl | simp only [bind_as, pure_b])) (fun hues =>
ws_callP C G_set_edge (by decide) [some 2, none, none, none] _ (new_o (new_i (new_i (new_i new_n)))) (WAs.cast (m' := m_set_edge s8.2 [x2.2.1, x2.2.2] one x2.1) (was_io C 2 (was_cons (R := (tTup tK2).rl) (we_tupl (wal_cons (we_var C 5) (wal_cons (we_var C 6) wal_nil))) fun a1 => was_cons (R := tInt.rl) (we_var C 7) fun a2 => was_cons (R := tInt.rl) (we_var C 4) fun a3 => was_nil fun σ ω F H en v3 r3 v2 r2 v1 r1 v0 r0 => ⟨⟨⟨v0, rfl, r0⟩, trivial⟩, (s8.2, a1, a2, a3, ()), rfl, v0, _, rfl, (io_own en 2 r0), v1, _, rfl, r1, v2, _, rfl, r2, v3, _, rfl, r3, rfl⟩)) (by first | (simp only [pure_b, bind_as]; done) | rfl)) (fun o13 =>
ws_fin rfl (Weak.same (Weak.same (Weak.same (Weak.same (Weak.any (Weak.any (Weak.any (Weak.any (Weak.any Weak.nil))))))))))))))))) (fun s15 =>
ws_ret0 (WE.cast (m' := pure s15.1) (we_tuple C Z (WE.hr (we_ovar C 3))) (by first | rfl | simp only [bind_as, pure_b])) (fun _ => rfl))))
def b_grouped (edges : List (List Int)) (count : Int) : Out (List ((Int × Int) × (Int × Int))) :=
(pure [([] : List (Int × Int)), ([] : List (Int × Int))]) >>= fun seen =>
(pure ([] : List ((Int × Int) × (Int × Int)))) >>= fun told =>
((pure edges) >>= fun xs19 => forO (fun (s1 : (List (List (Int × Int))) × (List ((Int × Int) × (Int × Int)))) (x2 : List Int) =>
(pure ([] : List (Int × Int))) >>= fun ports =>
((pure (upto 2)) >>= fun xs14 => forO (fun (s3 : (List (Int × Int)) × (List (List (Int × Int)))) (x4 : Int) =>
((idx s3.2 x4) >>= fun t5 => (idx x2 x4) >>= fun t6 => pure ((aget t5 t6).getD 0)) >>= fun before =>
(pure (before + 1)) >>= fun a7 => (subO (s3.2, fun b => b) x4) >>= fun r9 => (idx x2 x4) >>= fun j8 => aputO r9.1 j8 a7 >>= fun l10 =>
((idx x2 x4) >>= fun t11 => (divO before count) >>= fun t12 => pure (t11, t12)) >>= fun a13 => appO s3.1 a13 >>= fun ports =>
pure (ports, r9.2 l10)) xs14 (ports, s1.1)) >>= fun s15 =>
((idx s15.1 0) >>= fun t16 => (idx s15.1 1) >>= fun t17 => pure (t16, t17)) >>= fun a18 => appO s1.2 a18 >>= fun told =>
pure (s15.2, told)) xs19 (seen, told)) >>= fun s20 =>
pure s20.2
theorem x_grouped : ∃ g : (List (List Int)) → Int → Out (List ((Int × Int) × (Int × Int))), g = b_grouped := ⟨_, rfl⟩
def m_grouped : (List (List Int)) → Int → Out (List ((Int × Int) × (Int × Int))) := Classical.choose x_grouped
theorem m_grouped_eq : m_grouped = b_grouped := Classical.choose_spec x_grouped
abbrev P_grouped : Par ((List (List Int)) × Int × Unit) := (pC (tTup (tTup tInt)) (pC tInt pN))
abbrev u_grouped (i : (List (List Int)) × Int × Unit) : Out (List ((Int × Int) × (Int × Int))) := m_grouped i.1 i.2.1
theorem sc_grouped : FnScope ["edges", "count", "seen", "told", "ends", "ports", "side", "before"] ["edges", "count"] (defScope s_grouped) := ⟨rfl, rfl, rfl, by decide +kernel, rfl, by decide +kernel, by decide +kernel⟩
abbrev sp_grouped (K : PySem.W.Frag) : Sp := Sps P_grouped u_grouped (tTup (tT2 tK2 tK2)) K
theorem ok_grouped {fd : FuncData} (Z : Fre mg) (F : FunD K "grouped" "grouped" (defArgs s_grouped) (defBody s_grouped) (defScope s_grouped) [] [] (He.fAd K ("grouped", none)) fd) (g : mg "grouped" = some (.ref (He.fAd K ("grouped", none))))   : Def Pr w K mg base 1 "grouped" ["edges", "count"] [] (sp_grouped K) := by
  refine ⟨_, fd, [], fn_body F sc_grouped rfl (by decide) (fun X E B i e1 e2 e3 e4 e5 hW C => ?_), g, F.kp, F.bindsN (fun _ _ _ _ _ _ us hl => match us, hl with | [_, _], _ => rfl), .nil⟩
  subst e1 e2 e3 e4 e5
  obtain ⟨edges, count, _⟩ := i
  show WS X E B [iS (tTup (tTup tInt)) edges, iS tInt count, .any, .any, .any, .any, .any, .any] [_] (m_grouped edges count) _
  rw [m_grouped_eq]
  unfold b_grouped
  exact ws_setO C 2 (WO.cast (m' := pure [([] : List (Int × Int)), ([] : List (Int × Int))]) (wo_tu2 (wo_dicI (O := (im tInt))) (wo_dicI (O := (im tInt)))) (by first | rfl | simp only [bind_as, pure_b])) (fun seen =>
ws_setO C 3 (WO.cast (m' := pure ([] : List ((Int × Int) × (Int × Int)))) (wo_lst (wal_nil (T := (tT2 tK2 tK2)))) (by first | rfl | simp only [bind_as, pure_b])) (fun told =>
ws_seq (Δ := (fun (s1 : (List (List (Int × Int))) × (List ((Int × Int) × (Int × Int)))) => [iS (tTup (tTup tInt)) edges, iS tInt count, .on _ (oTu (oDi kdI (im tInt))) s1.1, .on _ (oLst (tT2 tK2 tK2)) s1.2, .any, .any, .any, .any])) (w1_for C (WI.cast (m' := pure edges) (wi_tup (we_var C 0)) (by first | rfl | simp only [bind_as, pure_b])) (wg_name C 4) (Δ := (fun (s1 : (List (List (Int × Int))) × (List ((Int × Int) × (Int × Int)))) => [iS (tTup (tTup tInt)) edges, iS tInt count, .on _ (oTu (oDi kdI (im tInt))) s1.1, .on _ (oLst (tT2 tK2 tK2)) s1.2, .any, .any, .any, .any])) (s0 := (seen, told)) (Weak.same (Weak.same (Weak.same (Weak.same (Weak.same (Weak.same (Weak.same (Weak.same Weak.nil)))))))) (by exact (fun s1 x2 =>
ws_setO C 5 (WO.cast (m' := pure ([] : List (Int × Int))) (wo_lst (wal_nil (T := tK2))) (by first | rfl | simp only [bind_as, pure_b])) (fun ports =>
ws_seq (Δ := (fun (s3 : (List (Int × Int)) × (List (List (Int × Int)))) => [iS (tTup (tTup tInt)) edges, iS tInt count, .on _ (oTu (oDi kdI (im tInt))) s3.2, .on _ (oLst (tT2 tK2 tK2)) s1.2, iS (tTup tInt) x2, .on _ (oLst tK2) s3.1, .any, .any])) (w1_for C (WI.cast (m' := pure (upto 2)) (WI.cast (wi_range C Z we_int) rfl) (by first | rfl | simp only [bind_as, pure_b])) (wg_name C 6) (Δ := (fun (s3 : (List (Int × Int)) × (List (List (Int × Int)))) => [iS (tTup (tTup tInt)) edges, iS tInt count, .on _ (oTu (oDi kdI (im tInt))) s3.2, .on _ (oLst (tT2 tK2 tK2)) s1.2, iS (tTup tInt) x2, .on _ (oLst tK2) s3.1, .any, .any])) (s0 := (ports, s1.1)) (Weak.same (Weak.same (Weak.same (Weak.same (Weak.same (Weak.same (Weak.same (Weak.same Weak.nil)))))))) (by exact (fun s3 x4 =>
ws_set C 7 (WE.cast (m' := (idx s3.2 x4) >>= fun t5 => (idx x2 x4) >>= fun t6 => pure ((aget t5 t6).getD 0)) (we_vgetd (KD := kdI) C (we_vixT (we_vw C 2) (we_var C 6)) (we_ixT (we_var C 4) (we_var C 6)) we_int) (by first | rfl | simp only [bind_as, pure_b])) (fun before =>
ws_lput (KD := kdI) C 2 (WO.cast (m' := pure (before + 1)) (WE.wo (we_add (we_var C 7) we_int)) (by first | rfl | simp only [bind_as, pure_b])) (WL.cast (m' := subO (s3.2, fun b => b) x4) (wl_ixT (wl_var C 2) (we_var C 6)) (by first | rfl | simp only [bind_as, pure_b])) (WE.cast (m' := idx x2 x4) (we_ixT (we_var C 4) (we_var C 6)) (by first | rfl | simp only [bind_as, pure_b])) (fun r9 l10 =>
ws_app C 5 (WE.cast (m' := (idx x2 x4) >>= fun t11 => (divO before count) >>= fun t12 => pure (t11, t12)) (we_k2 (we_ixT (we_var C 4) (we_var C 6)) (we_div (we_var C 7) (we_var C 1))) (by first | rfl | simp only [bind_as, pure_b])) (fun ports =>
ws_fin rfl (Weak.same (Weak.same (Weak.same (Weak.same (Weak.same (Weak.same (Weak.any (Weak.any Weak.nil)))))))))))))) (fun s15 =>
ws_app C 3 (WE.cast (m' := (idx s15.1 0) >>= fun t16 => (idx s15.1 1) >>= fun t17 => pure (t16, t17)) (we_t2 (we_ixL (WE.hr (we_ovar C 5)) we_int) (we_ixL (WE.hr (we_ovar C 5)) we_int)) (by first | rfl | simp only [bind_as, pure_b])) (fun told =>
ws_fin rfl (Weak.same (Weak.same (Weak.same (Weak.same (Weak.any (Weak.any (Weak.same (Weak.same Weak.nil)))))))))))))) (fun s20 =>
ws_ret0 (WE.cast (m' := pure s20.2) (we_tuple C Z (WE.hr (we_ovar C 3))) (by first | rfl | simp only [bind_as, pure_b])) (fun _ => rfl))))
theorem x_frozen : ∃ g : PyData → Out PyData, g = fun value => pure (frzD value) := ⟨_, rfl⟩
def m_frozen : PyData → Out PyData := Classical.choose x_frozen
theorem m_frozen_eq : m_frozen = fun value => pure (frzD value) := Classical.choose_spec x_frozen
theorem sc_frozen : FnScope ["value", "item"] ["value"] (defScope s_frozen) := ⟨rfl, rfl, rfl, by decide +kernel, rfl, by decide +kernel, by decide +kernel⟩
abbrev sp_frozenN (n : Nat) (K : PySem.W.Frag) : Sp := Sps (pC (tDn n) pN) (fun i => m_frozen i.1) tD K
abbrev sp_frozen (K : PySem.W.Frag) : Sp := sp_frozenN 8 K
theorem frozen_step {n : Nat} {fd : FuncData} (Z : Fre mg) (F : FunD K "frozen" "frozen" (defArgs s_frozen) (defBody s_frozen) (defScope s_frozen) [] [] (He.fAd K ("frozen", none)) fd) (g : mg "frozen" = some (.ref (He.fAd K ("frozen", none))))
    (G : ∀ m, n = m + 1 → Def Pr w K mg base n "frozen" ["value"] [] (sp_frozenN m K)) : Def Pr w K mg base (n + 1) "frozen" ["value"] [] (sp_frozenN n K) := by
  refine ⟨_, fd, [], fn_body F sc_frozen rfl (Nat.le_of_ble_eq_true rfl) (fun X E B i e1 e2 e3 e4 e5 hW C => ?_), g, F.kp, F.bindsN (fun _ _ _ _ _ _ us hl => match us, hl with | [_], _ => rfl), .nil⟩
  subst e1 e2 e3 e4 e5
  obtain ⟨value, _⟩ := i
  show WS X E B [iS (tDn n) value, .any] [_] (m_frozen value) _
  rw [m_frozen_eq]
  have leaf : isL value = false → isT value = false → WS X E B [iS (tDn n) value, .any] [defBody s_frozen] (pure (frzD value)) (fun b => .rt PyData tD b) := fun h1 h2 => by
    have e : frzD value = value := by cases value <;> first | rfl | (simp [isL, isT] at h1 h2)
    rw [e]
    refine WS.cast (ws_if (m1 := Out.stuck) (WT.cast (m' := pure false) (wt_val (we_isi2 C Z (cn := "list") (dn := "tuple") isL isT ty_dn kit_L kit_T (we_var C 0) Z.list (by decide +kernel) Z.tuple (by decide +kernel))) (by show (pure (isL value || isT value) : Out Bool) = _; rw [h1, h2]; rfl)) ws_stuck (ws_pop (ws_ret0 (WE.dn (we_var C 0)) fun _ => rfl))) rfl
  cases value with
  | list xs =>
    refine ws_have 0 (T := tDn n) (a := .list xs) (fun K F v h => depth_list h.2) rfl fun ⟨m, hm⟩ => ?_
    subst hm
    refine ws_conv 0 (U := tLstQ (tDn m)) (b := xs) (fun K F v h => by obtain ⟨m', e, r⟩ := dn_list h; cases e; exact r) rfl ?_
    refine WS.cast (ws_if (m2 := Out.stuck) (WT.cast (m' := pure true) (wt_val (we_isi2 C Z (cn := "list") (dn := "tuple") (fun _ => true) (fun _ => false) ty_lstq (fun _ => by decide +kernel) (fun _ => by decide +kernel) (we_var C 0) Z.list (by decide +kernel) Z.tuple (by decide +kernel))) rfl) (ws_ret0 (WE.map (S := tD.rl) (we_tuple C Z (WO.rd (wo_lc C (ix := [1]) [("item", 1)] (by decide +kernel) (WI.cast (m' := pure xs) (wi_lstQ (we_var C 0)) rfl) (by decide) (fun s_ H_ Cc_ cl_ fp_ C => wg_name C 1) (fun s_ H_ Cc_ cl_ fp_ x C => WE.cast (m' := m_frozen x) (we_call C (G m rfl) (Nat.le_refl _) (wa_cons (R := (tDn m).rl) (we_var C 1) fun a0 => wa_nil fun K F H s v0 r0 => ⟨(a0, ()), rfl, v0, _, rfl, r0, rfl⟩)) rfl)))) PyData.tuple (fun K F H v a _ h => tupD h)) fun _ => rfl) ws_stuck) ?_
    show ((mapO m_frozen xs >>= fun a => pure a) >>= fun a => pure (PyData.tuple a)) = pure (frzD (.list xs))
    rw [m_frozen_eq, mapO_pure]
    show (pure (PyData.tuple (xs.map frzD)) : Out PyData) = _
    rw [← frzDs_map, frzD]
  | tuple xs =>
    refine ws_have 0 (T := tDn n) (a := .tuple xs) (fun K F v h => depth_tuple h.2) rfl fun ⟨m, hm⟩ => ?_
    subst hm
    refine ws_conv 0 (U := tTup (tDn m)) (b := xs) (fun K F v h => by obtain ⟨m', e, r⟩ := dn_tuple h; cases e; exact r) rfl ?_
    refine WS.cast (ws_if (m2 := Out.stuck) (WT.cast (m' := pure true) (wt_val (we_isi2 C Z (cn := "list") (dn := "tuple") (fun _ => false) (fun _ => true) ty_tup (fun _ => by decide +kernel) (fun _ => by decide +kernel) (we_var C 0) Z.list (by decide +kernel) Z.tuple (by decide +kernel))) rfl) (ws_ret0 (WE.map (S := tD.rl) (we_tuple C Z (WO.rd (wo_lc C (ix := [1]) [("item", 1)] (by decide +kernel) (WI.cast (m' := pure xs) (wi_tup (we_var C 0)) rfl) (by decide) (fun s_ H_ Cc_ cl_ fp_ C => wg_name C 1) (fun s_ H_ Cc_ cl_ fp_ x C => WE.cast (m' := m_frozen x) (we_call C (G m rfl) (Nat.le_refl _) (wa_cons (R := (tDn m).rl) (we_var C 1) fun a0 => wa_nil fun K F H s v0 r0 => ⟨(a0, ()), rfl, v0, _, rfl, r0, rfl⟩)) rfl)))) PyData.tuple (fun K F H v a _ h => tupD h)) fun _ => rfl) ws_stuck) ?_
    show ((mapO m_frozen xs >>= fun a => pure a) >>= fun a => pure (PyData.tuple a)) = pure (frzD (.tuple xs))
    rw [m_frozen_eq, mapO_pure]
    show (pure (PyData.tuple (xs.map frzD)) : Out PyData) = _
    rw [← frzDs_map, frzD]
  | none => exact leaf rfl rfl
  | bool _ => exact leaf rfl rfl
  | int _ => exact leaf rfl rfl
  | str _ => exact leaf rfl rfl
  | dict _ => exact leaf rfl rfl
theorem ok_frozenN {fd : FuncData} (Z : Fre mg) (F : FunD K "frozen" "frozen" (defArgs s_frozen) (defBody s_frozen) (defScope s_frozen) [] [] (He.fAd K ("frozen", none)) fd) (g : mg "frozen" = some (.ref (He.fAd K ("frozen", none)))) : ∀ n, Def Pr w K mg base (n + 1) "frozen" ["value"] [] (sp_frozenN n K)
  | 0 => frozen_step Z F g fun m h => nomatch h
  | n + 1 => frozen_step Z F g fun m h => by cases h; exact ok_frozenN Z F g n
theorem ok_frozen {fd : FuncData} (Z : Fre mg) (F : FunD K "frozen" "frozen" (defArgs s_frozen) (defBody s_frozen) (defScope s_frozen) [] [] (He.fAd K ("frozen", none)) fd) (g : mg "frozen" = some (.ref (He.fAd K ("frozen", none)))) : Def Pr w K mg base 9 "frozen" ["value"] [] (sp_frozen K) := ok_frozenN Z F g 8

def b_even_hues (edges : PyData) (count : Int) : Out (List Int) :=
((if decide (1 ≤ count) = true then pure (decide (count ≤ 24)) else pure false) >>= fun t1 => pure (!t1)) >>= fun c2 => if c2 = true then (
Out.stuck)
else (
((((dnO 8 edges) >>= fun t3 => m_frozen t3) >>= fun t4 => (asTup (asTup asInt)) t4) >>= fun t5 => m_grouped t5 count) >>= fun t6 => m_proper_hues t6 count)
theorem x_even_hues : ∃ g : PyData → Int → Out (List Int), g = b_even_hues := ⟨_, rfl⟩
def m_even_hues : PyData → Int → Out (List Int) := Classical.choose x_even_hues
theorem m_even_hues_eq : m_even_hues = b_even_hues := Classical.choose_spec x_even_hues
abbrev P_even_hues : Par (PyData × Int × Unit) := (pC tD (pC tInt pN))
abbrev u_even_hues (i : PyData × Int × Unit) : Out (List Int) := m_even_hues i.1 i.2.1
theorem sc_even_hues : FnScope ["edges", "count"] ["edges", "count"] (defScope s_even_hues) := ⟨rfl, rfl, rfl, by decide +kernel, rfl, by decide +kernel, by decide +kernel⟩
abbrev sp_even_hues (K : PySem.W.Frag) : Sp := Sps P_even_hues u_even_hues (tTup tInt) K
theorem ok_even_hues {fd : FuncData} (Z : Fre mg) (F : FunD K "even_hues" "even_hues" (defArgs s_even_hues) (defBody s_even_hues) (defScope s_even_hues) [] [] (He.fAd K ("even_hues", none)) fd) (g : mg "even_hues" = some (.ref (He.fAd K ("even_hues", none)))) (G_frozen : Def Pr w K mg base 9 "frozen" ["value"] [] (sp_frozen K)) (G_grouped : Def Pr w K mg base 1 "grouped" ["edges", "count"] [] (sp_grouped K)) (G_proper_hues : Def Pr w K mg base 3 "proper_hues" ["edges", "count"] [] (sp_proper_hues K)) (c_MOST_HUES : ∃ t, mg "MOST_HUES" = some (.int 24 t)) : Def Pr w K mg base 10 "even_hues" ["edges", "count"] [] (sp_even_hues K) := by
  refine ⟨_, fd, [], fn_body F sc_even_hues rfl (by decide) (fun X E B i e1 e2 e3 e4 e5 hW C => ?_), g, F.kp, F.bindsN (fun _ _ _ _ _ _ us hl => match us, hl with | [_, _], _ => rfl), .nil⟩
  subst e1 e2 e3 e4 e5
  obtain ⟨edges, count, _⟩ := i
  show WS X E B [iS tD edges, iS tInt count] [_] (m_even_hues edges count) _
  rw [m_even_hues_eq]
  unfold b_even_hues
  exact ws_if (WT.cast (m' := (if decide (1 ≤ count) = true then pure (decide (count ≤ 24)) else pure false) >>= fun t1 => pure (!t1)) (wt_not (wt_chain op_le op_le we_int (we_var C 1) (we_gint C c_MOST_HUES))) (by first | rfl | simp only [bind_as, pure_b])) (
ws_stuck) (
ws_pop (ws_ret0 (WE.cast (m' := ((((dnO 8 edges) >>= fun t3 => m_frozen t3) >>= fun t4 => (asTup (asTup asInt)) t4) >>= fun t5 => m_grouped t5 count) >>= fun t6 => m_proper_hues t6 count) (we_call C G_proper_hues (by decide) (wa_cons (R := (tTup (tT2 tK2 tK2)).rl) (WE.cast (m' := (((dnO 8 edges) >>= fun t3 => m_frozen t3) >>= fun t4 => (asTup (asTup asInt)) t4) >>= fun t5 => m_grouped t5 count) (we_call C G_grouped (by decide) (wa_cons (R := (tTup (tTup tInt)).rl) (WE.cast (m' := ((dnO 8 edges) >>= fun t3 => m_frozen t3) >>= fun t4 => (asTup (asTup asInt)) t4) (we_as (as_tup (as_tup as_int)) (we_call C G_frozen (by decide) (wa_cons (R := (tDn 8).rl) (WE.cast (m' := dnO 8 edges) (we_dn (we_var C 0)) (by first | rfl | simp only [bind_as, pure_b])) fun a0 => wa_nil fun K F H s v0 r0 => ⟨(a0, ()), rfl, v0, _, rfl, r0, rfl⟩))) (by first | (simp only [pure_b, bind_as]; done) | rfl)) fun a0 => wa_cons (R := tInt.rl) (we_var C 1) fun a1 => wa_nil fun K F H s v1 r1 v0 r0 => ⟨(a0, a1, ()), rfl, v0, _, rfl, r0, v1, _, rfl, r1, rfl⟩)) (by first | (simp only [pure_b, bind_as]; done) | rfl)) fun a0 => wa_cons (R := tInt.rl) (we_var C 1) fun a1 => wa_nil fun K F H s v1 r1 v0 r0 => ⟨(a0, a1, ()), rfl, v0, _, rfl, r0, v1, _, rfl, r1, rfl⟩)) (by first | (simp only [pure_b, bind_as]; done) | rfl)) (fun _ => rfl)))
def b_law_returned (script : List Int) (row : List Int) : Out Bool :=
((idx row 7) >>= fun t1 => pure (1 + t1)) >>= fun limit =>
(pure ([] : List Int)) >>= fun ends =>
((pure (upto 8)) >>= fun xs6 => forO (fun (s2 : (List Int)) (x3 : Int) =>
(((m_law_cell script (7 + x3)) >>= fun t4 => m_law_digits t4 [1000, 1000, 1000, 1000, 1000, 1000, 1000, 1000]) >>= fun t5 => catO s2 t5) >>= fun ends =>
pure ends) xs6 ends) >>= fun s7 =>
(pure ([] : List (Int × Int))) >>= fun edges =>
(((idx row 8) >>= fun t8 => rangeO t8) >>= fun xs27 => forO (fun (s9 : (List (Int × Int))) (x10 : Int) =>
((idx row 4) >>= fun t15 => (idx row 6) >>= fun t16 => (((idx s7 (2 * x10)) >>= fun t11 => pure t11) >>= fun t13 => ((idx row 9) >>= fun t12 => pure (1 + t12)) >>= fun t14 => modO t13 t14) >>= fun t17 => m_law_number t15 t16 t17) >>= fun left =>
(((idx row 5) >>= fun t22 => (idx row 6) >>= fun t23 => (((idx s7 ((2 * x10) + 1)) >>= fun t18 => pure t18) >>= fun t20 => ((idx row 10) >>= fun t19 => pure (1 + t19)) >>= fun t21 => modO t20 t21) >>= fun t24 => m_law_number t22 t23 t24) >>= fun t25 => pure (left, t25)) >>= fun a26 => appO s9 a26 >>= fun edges =>
pure edges) xs27 edges) >>= fun s28 =>
(m_even_hues ((cLst (cT2 cInt cInt)).d s28) limit) >>= fun told =>
(if (!true) = true then pure true else pure (!decide ((told.length : Int) = (s28.length : Int)))) >>= fun c29 => if c29 = true then (
pure false)
else (
((pure told) >>= fun xs35 => forR (fun (s30 : Unit) (x31 : Int) =>
((m_law_whole x31) >>= fun t32 => pure (!t32)) >>= fun c33 => if c33 = true then (
(pure false) >>= fun r34 => pure (Step.rt r34))
else (
pure (Step.nx ()))) xs35 ()) >>= fun t48 => (match t48 with
| Step.rt r47 => pure r47
| Step.nx s36 =>
(((m_law_evenT s28 limit told) >>= fun t37 => pure (!t37)) >>= fun t39 => if t39 = true then pure true else (m_law_askedT s28 limit told true) >>= fun t38 => pure (!t38)) >>= fun c40 => if c40 = true then (
pure false)
else (
(pure (decide ((s28.length : Int) = 0))) >>= fun c41 => if c41 = true then (
pure true)
else (
(((idx row 11) >>= fun t42 => (idx row 3) >>= fun t43 => (idx row 12) >>= fun t44 => pure [t42, t43, t44]) >>= fun t45 => m_law_changedT s28 limit told t45) >>= fun changed =>
(m_law_even s28 limit changed) >>= fun t46 => m_law_asked s28 limit changed t46))))
theorem x_law_returned : ∃ g : (List Int) → (List Int) → Out Bool, g = b_law_returned := ⟨_, rfl⟩
def m_law_returned : (List Int) → (List Int) → Out Bool := Classical.choose x_law_returned
theorem m_law_returned_eq : m_law_returned = b_law_returned := Classical.choose_spec x_law_returned
abbrev P_law_returned : Par ((List Int) × (List Int) × Unit) := (pC (tLstQ tInt) (pC (tLst tInt) pN))
abbrev u_law_returned (i : (List Int) × (List Int) × Unit) : Out Bool := m_law_returned i.1 i.2.1
theorem sc_law_returned : FnScope ["script", "row", "limit", "ends", "k", "edges", "left", "told", "hue", "changed"] ["script", "row"] (defScope s_law_returned) := ⟨rfl, rfl, rfl, by decide +kernel, rfl, by decide +kernel, by decide +kernel⟩
abbrev sp_law_returned (K : PySem.W.Frag) : Sp := Sps P_law_returned u_law_returned tBool K
theorem ok_law_returned {fd : FuncData} (Z : Fre mg) (F : FunD K "_law_returned" "_law_returned" (defArgs s_law_returned) (defBody s_law_returned) (defScope s_law_returned) [] [] (He.fAd K ("_law_returned", none)) fd) (g : mg "_law_returned" = some (.ref (He.fAd K ("_law_returned", none)))) (G_law_cell : Def Pr w K mg base 1 "_law_cell" ["script", "k"] [] (sp_law_cell K)) (G_law_digits : Def Pr w K mg base 1 "_law_digits" ["cell", "sizes"] [] (sp_law_digits K)) (G_law_number : Def Pr w K mg base 1 "_law_number" ["base", "step", "index"] [] (sp_law_number K)) (G_even_hues : Def Pr w K mg base 10 "even_hues" ["edges", "count"] [] (sp_even_hues K)) (G_law_whole : Def Pr w K mg base 1 "_law_whole" ["value"] [] (sp_law_whole K)) (G_law_evenT : Def Pr w K mg base 2 "_law_even" ["edges", "count", "hues"] [] (sp_law_evenT K)) (G_law_askedT : Def Pr w K mg base 2 "_law_asked" ["edges", "count", "hues", "due"] [] (sp_law_askedT K)) (G_law_changedT : Def Pr w K mg base 2 "_law_changed" ["edges", "count", "hues", "part"] [] (sp_law_changedT K)) (G_law_even : Def Pr w K mg base 2 "_law_even" ["edges", "count", "hues"] [] (sp_law_even K)) (G_law_asked : Def Pr w K mg base 2 "_law_asked" ["edges", "count", "hues", "due"] [] (sp_law_asked K))  : Def Pr w K mg base 11 "_law_returned" ["script", "row"] [] (sp_law_returned K) := by
  refine ⟨_, fd, [], fn_body F sc_law_returned rfl (by decide) (fun X E B i e1 e2 e3 e4 e5 hW C => ?_), g, F.kp, F.bindsN (fun _ _ _ _ _ _ us hl => match us, hl with | [_, _], _ => rfl), .nil⟩
  subst e1 e2 e3 e4 e5
  obtain ⟨script, row, _⟩ := i
  show WS X E B [iS (tLstQ tInt) script, iS (tLst tInt) row, .any, .any, .any, .any, .any, .any, .any, .any] [_] (m_law_returned script row) _
  rw [m_law_returned_eq]
  unfold b_law_returned
  exact ws_set C 2 (WE.cast (m' := (idx row 7) >>= fun t1 => pure (1 + t1)) (we_add we_int (we_ixL (WE.rd (we_var C 1)) we_int)) (by first | rfl | simp only [bind_as, pure_b])) (fun limit =>
ws_set C 3 (WE.cast (m' := pure ([] : List Int)) (WO.fz (wo_lst (wal_nil (T := tInt))) (fz_lst _)) (by first | rfl | simp only [bind_as, pure_b])) (fun ends =>
ws_seq (Δ := (fun (s2 : (List Int)) => [iS (tLstQ tInt) script, iS (tLst tInt) row, iS tInt limit, iS (tLst tInt) s2, .any, .any, .any, .any, .any, .any])) (w1_for C (WI.cast (m' := pure (upto 8)) (WI.cast (wi_range C Z we_int) rfl) (by first | rfl | simp only [bind_as, pure_b])) (wg_name C 4) (Δ := (fun (s2 : (List Int)) => [iS (tLstQ tInt) script, iS (tLst tInt) row, iS tInt limit, iS (tLst tInt) s2, .any, .any, .any, .any, .any, .any])) (s0 := ends) (Weak.same (Weak.same (Weak.same (Weak.same (Weak.same (Weak.same (Weak.same (Weak.same (Weak.same (Weak.same Weak.nil)))))))))) (by exact (fun s2 x3 =>
ws_set C 3 (WE.cast (m' := ((m_law_cell script (7 + x3)) >>= fun t4 => m_law_digits t4 [1000, 1000, 1000, 1000, 1000, 1000, 1000, 1000]) >>= fun t5 => catO s2 t5) (WO.fz (wo_cat (WE.rh (we_var C 3)) (WO.rh (wo_call C G_law_digits (by decide) (wa_cons (R := tInt.rl) (WE.cast (m' := m_law_cell script (7 + x3)) (we_call C G_law_cell (by decide) (wa_cons (R := (tLstQ tInt).rl) (we_var C 0) fun a0 => wa_cons (R := tInt.rl) (we_add we_int (we_var C 4)) fun a1 => wa_nil fun K F H s v1 r1 v0 r0 => ⟨(a0, a1, ()), rfl, v0, _, rfl, r0, v1, _, rfl, r1, rfl⟩)) (by first | (simp only [pure_b, bind_as]; done) | rfl)) fun a0 => wa_cons (R := (tLst tInt).rl) (WO.fz (wo_lst (wal_cons we_int (wal_cons we_int (wal_cons we_int (wal_cons we_int (wal_cons we_int (wal_cons we_int (wal_cons we_int (wal_cons we_int wal_nil))))))))) (fz_lst _)) fun a1 => wa_nil fun K F H s v1 r1 v0 r0 => ⟨(a0, a1, ()), rfl, v0, _, rfl, r0, v1, _, rfl, r1, rfl⟩)))) (fz_lst _)) (by first | (simp only [pure_b, bind_as]; done) | rfl)) (fun ends =>
ws_fin rfl (Weak.same (Weak.same (Weak.same (Weak.same (Weak.any (Weak.same (Weak.same (Weak.same (Weak.same (Weak.same Weak.nil)))))))))))))) (fun s7 =>
ws_setO C 5 (WO.cast (m' := pure ([] : List (Int × Int))) (wo_lst (wal_nil (T := (tT2 tInt tInt)))) (by first | rfl | simp only [bind_as, pure_b])) (fun edges =>
ws_seq (Δ := (fun (s9 : (List (Int × Int))) => [iS (tLstQ tInt) script, iS (tLst tInt) row, iS tInt limit, iS (tLst tInt) s7, .any, .on _ (oLst (tT2 tInt tInt)) s9, .any, .any, .any, .any])) (w1_for C (WI.cast (m' := (idx row 8) >>= fun t8 => rangeO t8) (wi_range C Z (we_ixL (WE.rd (we_var C 1)) we_int)) (by first | rfl | simp only [bind_as, pure_b])) (wg_name C 4) (Δ := (fun (s9 : (List (Int × Int))) => [iS (tLstQ tInt) script, iS (tLst tInt) row, iS tInt limit, iS (tLst tInt) s7, .any, .on _ (oLst (tT2 tInt tInt)) s9, .any, .any, .any, .any])) (s0 := edges) (Weak.same (Weak.same (Weak.same (Weak.same (Weak.same (Weak.same (Weak.same (Weak.same (Weak.same (Weak.same Weak.nil)))))))))) (by exact (fun s9 x10 =>
ws_set C 6 (WE.cast (m' := (idx row 4) >>= fun t15 => (idx row 6) >>= fun t16 => (((idx s7 (2 * x10)) >>= fun t11 => pure t11) >>= fun t13 => ((idx row 9) >>= fun t12 => pure (1 + t12)) >>= fun t14 => modO t13 t14) >>= fun t17 => m_law_number t15 t16 t17) (we_call C G_law_number (by decide) (wa_cons (R := tInt.rl) (WE.cast (m' := idx row 4) (we_ixL (WE.rd (we_var C 1)) we_int) (by first | rfl | simp only [bind_as, pure_b])) fun a0 => wa_cons (R := tInt.rl) (WE.cast (m' := idx row 6) (we_ixL (WE.rd (we_var C 1)) we_int) (by first | rfl | simp only [bind_as, pure_b])) fun a1 => wa_cons (R := tInt.rl) (WE.cast (m' := ((idx s7 (2 * x10)) >>= fun t11 => pure t11) >>= fun t13 => ((idx row 9) >>= fun t12 => pure (1 + t12)) >>= fun t14 => modO t13 t14) (we_mod (we_intI C Z (we_ixL (WE.rd (we_var C 3)) (we_mulL we_int (we_var C 4)))) (we_add we_int (we_ixL (WE.rd (we_var C 1)) we_int))) (by first | rfl | simp only [bind_as, pure_b])) fun a2 => wa_nil fun K F H s v2 r2 v1 r1 v0 r0 => ⟨(a0, a1, a2, ()), rfl, v0, _, rfl, r0, v1, _, rfl, r1, v2, _, rfl, r2, rfl⟩)) (by first | (simp only [pure_b, bind_as]; done) | rfl)) (fun left =>
ws_app C 5 (WE.cast (m' := ((idx row 5) >>= fun t22 => (idx row 6) >>= fun t23 => (((idx s7 ((2 * x10) + 1)) >>= fun t18 => pure t18) >>= fun t20 => ((idx row 10) >>= fun t19 => pure (1 + t19)) >>= fun t21 => modO t20 t21) >>= fun t24 => m_law_number t22 t23 t24) >>= fun t25 => pure (left, t25)) (we_t2 (we_var C 6) (we_call C G_law_number (by decide) (wa_cons (R := tInt.rl) (WE.cast (m' := idx row 5) (we_ixL (WE.rd (we_var C 1)) we_int) (by first | rfl | simp only [bind_as, pure_b])) fun a0 => wa_cons (R := tInt.rl) (WE.cast (m' := idx row 6) (we_ixL (WE.rd (we_var C 1)) we_int) (by first | rfl | simp only [bind_as, pure_b])) fun a1 => wa_cons (R := tInt.rl) (WE.cast (m' := ((idx s7 ((2 * x10) + 1)) >>= fun t18 => pure t18) >>= fun t20 => ((idx row 10) >>= fun t19 => pure (1 + t19)) >>= fun t21 => modO t20 t21) (we_mod (we_intI C Z (we_ixL (WE.rd (we_var C 3)) (we_add (we_mulL we_int (we_var C 4)) we_int))) (we_add we_int (we_ixL (WE.rd (we_var C 1)) we_int))) (by first | rfl | simp only [bind_as, pure_b])) fun a2 => wa_nil fun K F H s v2 r2 v1 r1 v0 r0 => ⟨(a0, a1, a2, ()), rfl, v0, _, rfl, r0, v1, _, rfl, r1, v2, _, rfl, r2, rfl⟩))) (by first | (simp only [pure_b, bind_as]; done) | rfl)) (fun edges =>
ws_fin rfl (Weak.same (Weak.same (Weak.same (Weak.same (Weak.any (Weak.same (Weak.any (Weak.same (Weak.same (Weak.same Weak.nil))))))))))))))) (fun s28 =>
ws_set C 7 (WE.cast (m' := m_even_hues ((cLst (cT2 cInt cInt)).d s28) limit) (we_call C G_even_hues (by decide) (wa_cons (R := tD.rl) (WE.map (R := (tLst (tT2 tInt tInt)).rl) (S := tD.rl) (WO.fz (wo_list C Z (WE.hr (we_ovar C 5))) (fz_lst _)) (cLst (cT2 cInt cInt)).d (fun K F H v a _ h => (dp_lst (dp_t2 dp_int dp_int)) K F v a h)) fun a0 => wa_cons (R := tInt.rl) (we_var C 2) fun a1 => wa_nil fun K F H s v1 r1 v0 r0 => ⟨(a0, a1, ()), rfl, v0, _, rfl, r0, v1, _, rfl, r1, rfl⟩)) (by first | (simp only [pure_b, bind_as]; done) | rfl)) (fun told =>
ws_if (WT.cast (m' := if (!true) = true then pure true else pure (!decide ((told.length : Int) = (s28.length : Int)))) (wt_b (wb_or (wt_not (wt_val (we_isi C Z (cn := "tuple") (fun _ => true) ty_tup (fun _ => by decide +kernel) (we_var C 7) Z.tuple (by decide +kernel)))) (wb_or1 (wt_ne eqs_int (we_lenT C Z (we_var C 7)) (we_lenL C Z (WE.hr (we_ovar C 5))))))) (by first | rfl | simp only [bind_as, pure_b])) (
ws_ret0 (WE.cast (m' := pure false) we_bl (by first | rfl | simp only [bind_as, pure_b])) (fun _ => rfl)) (
ws_pop (ws_cons (D1 := DR (fun (s30 : Unit) => [iS (tLstQ tInt) script, iS (tLst tInt) row, iS tInt limit, iS (tLst tInt) s7, .any, .on _ (oLst (tT2 tInt tInt)) s28, .any, iS (tTup tInt) told, .any, .any]) (fun b => .rt _ tBool b)) (w1_forR C (WI.cast (m' := pure told) (wi_tup (we_var C 7)) (by first | rfl | simp only [bind_as, pure_b])) (wg_name C 8) (Δ := (fun (s30 : Unit) => [iS (tLstQ tInt) script, iS (tLst tInt) row, iS tInt limit, iS (tLst tInt) s7, .any, .on _ (oLst (tT2 tInt tInt)) s28, .any, iS (tTup tInt) told, .any, .any])) (s0 := ()) (Rt := (fun b => .rt _ tBool b)) (Weak.same (Weak.same (Weak.same (Weak.same (Weak.same (Weak.same (Weak.same (Weak.same (Weak.same (Weak.same Weak.nil)))))))))) (by exact (fun s30 x31 =>
ws_if (WT.cast (m' := (m_law_whole x31) >>= fun t32 => pure (!t32)) (wt_not (wt_val (we_call C G_law_whole (by decide) (wa_cons (R := tInt.rl) (we_var C 8) fun a0 => wa_nil fun K F H s v0 r0 => ⟨(a0, ()), rfl, v0, _, rfl, r0, rfl⟩)))) (by first | (simp only [pure_b, bind_as]; done) | rfl)) (
ws_ret (g := Step.rt) (WE.cast (m' := pure false) we_bl (by first | rfl | simp only [bind_as, pure_b])) (fun _ => rfl)) (
ws_pop (ws_fin rfl (Weak.same (Weak.same (Weak.same (Weak.same (Weak.same (Weak.same (Weak.same (Weak.same (Weak.any (Weak.same Weak.nil)))))))))))))) (fun r => .inl ⟨_, _, _, rfl⟩)) (fun t48 => match t48 with
| Step.rt r47 => .inr ⟨trivial, r47, rfl, rfl⟩
| Step.nx s36 => .inl ⟨_, rfl, (
ws_fz 5 (fz_lst _) hW rfl (
ws_if (WT.cast (m' := ((m_law_evenT s28 limit told) >>= fun t37 => pure (!t37)) >>= fun t39 => if t39 = true then pure true else (m_law_askedT s28 limit told true) >>= fun t38 => pure (!t38)) (wt_b (wb_or (wt_not (wt_val (we_call C G_law_evenT (by decide) (wa_cons (R := (tLst (tT2 tInt tInt)).rl) (we_var C 5) fun a0 => wa_cons (R := tInt.rl) (we_var C 2) fun a1 => wa_cons (R := (tTup tInt).rl) (we_var C 7) fun a2 => wa_nil fun K F H s v2 r2 v1 r1 v0 r0 => ⟨(a0, a1, a2, ()), rfl, v0, _, rfl, r0, v1, _, rfl, r1, v2, _, rfl, r2, rfl⟩)))) (wb_or1 (wt_not (wt_val (we_call C G_law_askedT (by decide) (wa_cons (R := (tLst (tT2 tInt tInt)).rl) (we_var C 5) fun a0 => wa_cons (R := tInt.rl) (we_var C 2) fun a1 => wa_cons (R := (tTup tInt).rl) (we_var C 7) fun a2 => wa_cons (R := tBool.rl) we_bl fun a3 => wa_nil fun K F H s v3 r3 v2 r2 v1 r1 v0 r0 => ⟨(a0, a1, a2, a3, ()), rfl, v0, _, rfl, r0, v1, _, rfl, r1, v2, _, rfl, r2, v3, _, rfl, r3, rfl⟩))))))) (by first | (simp only [pure_b, bind_as]; done) | rfl)) (
ws_ret0 (WE.cast (m' := pure false) we_bl (by first | rfl | simp only [bind_as, pure_b])) (fun _ => rfl)) (
ws_pop (ws_if (WT.cast (m' := pure (decide ((s28.length : Int) = 0))) (wt_eq eqs_int (we_lenL C Z (WE.rd (we_var C 5))) we_int) (by first | rfl | simp only [bind_as, pure_b])) (
ws_ret0 (WE.cast (m' := pure true) we_bl (by first | rfl | simp only [bind_as, pure_b])) (fun _ => rfl)) (
ws_pop (ws_set C 9 (WE.cast (m' := ((idx row 11) >>= fun t42 => (idx row 3) >>= fun t43 => (idx row 12) >>= fun t44 => pure [t42, t43, t44]) >>= fun t45 => m_law_changedT s28 limit told t45) (WO.fz (wo_call C G_law_changedT (by decide) (wa_cons (R := (tLst (tT2 tInt tInt)).rl) (we_var C 5) fun a0 => wa_cons (R := tInt.rl) (we_var C 2) fun a1 => wa_cons (R := (tTup tInt).rl) (we_var C 7) fun a2 => wa_cons (R := (tLst tInt).rl) (WE.cast (m' := (idx row 11) >>= fun t42 => (idx row 3) >>= fun t43 => (idx row 12) >>= fun t44 => pure [t42, t43, t44]) (WO.fz (wo_lst (wal_cons (WE.cast (m' := idx row 11) (we_ixL (WE.rd (we_var C 1)) we_int) (by first | rfl | simp only [bind_as, pure_b])) (wal_cons (WE.cast (m' := idx row 3) (we_ixL (WE.rd (we_var C 1)) we_int) (by first | rfl | simp only [bind_as, pure_b])) (wal_cons (WE.cast (m' := idx row 12) (we_ixL (WE.rd (we_var C 1)) we_int) (by first | rfl | simp only [bind_as, pure_b])) wal_nil)))) (fz_lst _)) (by first | rfl | simp only [bind_as, pure_b])) fun a3 => wa_nil fun K F H s v3 r3 v2 r2 v1 r1 v0 r0 => ⟨(a0, a1, a2, a3, ()), rfl, v0, _, rfl, r0, v1, _, rfl, r1, v2, _, rfl, r2, v3, _, rfl, r3, rfl⟩)) (fz_lst _)) (by first | (simp only [pure_b, bind_as]; done) | rfl)) (fun changed =>
ws_ret0 (WE.cast (m' := (m_law_even s28 limit changed) >>= fun t46 => m_law_asked s28 limit changed t46) (we_call C G_law_asked (by decide) (wa_cons (R := (tLst (tT2 tInt tInt)).rl) (we_var C 5) fun a0 => wa_cons (R := tInt.rl) (we_var C 2) fun a1 => wa_cons (R := (tLst tInt).rl) (we_var C 9) fun a2 => wa_cons (R := tBool.rl) (WE.cast (m' := m_law_even s28 limit changed) (we_call C G_law_even (by decide) (wa_cons (R := (tLst (tT2 tInt tInt)).rl) (we_var C 5) fun a0 => wa_cons (R := tInt.rl) (we_var C 2) fun a1 => wa_cons (R := (tLst tInt).rl) (we_var C 9) fun a2 => wa_nil fun K F H s v2 r2 v1 r1 v0 r0 => ⟨(a0, a1, a2, ()), rfl, v0, _, rfl, r0, v1, _, rfl, r1, v2, _, rfl, r2, rfl⟩)) (by first | (simp only [pure_b, bind_as]; done) | rfl)) fun a3 => wa_nil fun K F H s v3 r3 v2 r2 v1 r1 v0 r0 => ⟨(a0, a1, a2, a3, ()), rfl, v0, _, rfl, r0, v1, _, rfl, r1, v2, _, rfl, r2, v3, _, rfl, r3, rfl⟩)) (by first | (simp only [pure_b, bind_as]; done) | rfl)) (fun _ => rfl))))))))⟩)))))))))
def b_law (script : List Int) : Out Bool :=
((m_law_cell script 0) >>= fun t1 => m_law_digits t1 [30, 4, 16, 100000, 1000, 1000, 6, 24, 33, 9, 9, 9, 30]) >>= fun row =>
((idx row 0) >>= fun t2 => pure (1 + t2)) >>= fun count =>
(((idx row 0) >>= fun t3 => pure (decide (24 ≤ t3))) >>= fun c4 => if c4 = true then (
(((idx row 0) >>= fun t6 => pure (t6 - 24)) >>= fun t7 => idx [2, 3, 25, 99, 2, 60] t7) >>= fun count =>
pure count)
else (
pure count)) >>= fun s5 =>
((m_law_built script row s5) >>= fun t8 => m_law_mixed t8 row) >>= fun mixed =>
(pure mixed.1) >>= fun edges =>
(pure mixed.2) >>= fun hues =>
(((m_law_asked edges s5 hues true) >>= fun t9 => pure (!t9)) >>= fun t11 => if t11 = true then pure true else (m_law_asked ([] : List (Int × Int)) s5 ([] : List Int) true) >>= fun t10 => pure (!t10)) >>= fun c12 => if c12 = true then (
pure false)
else (
((m_law_cell script 6) >>= fun t13 => m_law_digits t13 [9, 2000, 60, 9, 2000, 60, 9, 2000, 60, 9, 2000, 60]) >>= fun part =>
(((m_law_cell script 5) >>= fun t14 => m_law_digits t14 [9, 2000, 60, 9, 2000, 60, 9, 2000, 60, 9, 2000, 60]) >>= fun t15 => catO part t15) >>= fun part =>
((pure (upto 8)) >>= fun xs22 => forR (fun (s16 : Unit) (x17 : Int) =>
(m_law_changed edges s5 hues (cut part (some (3 * x17)) (some ((3 * x17) + 3)))) >>= fun changed =>
(((m_law_even edges s5 changed) >>= fun t18 => m_law_asked edges s5 changed t18) >>= fun t19 => pure (!t19)) >>= fun c20 => if c20 = true then (
(pure false) >>= fun r21 => pure (Step.rt r21))
else (
pure (Step.nx ()))) xs22 ()) >>= fun t42 => (match t42 with
| Step.rt r41 => pure r41
| Step.nx s23 =>
((pure edges) >>= fun xs27 => mapO (fun edge24 => ((idx part 2) >>= fun t25 => pure t25) >>= fun t26 => modO t26 s5) xs27) >>= fun one =>
(((m_law_even edges s5 one) >>= fun t28 => m_law_asked edges s5 one t28) >>= fun t29 => pure (!t29)) >>= fun c30 => if c30 = true then (
pure false)
else (
((pure [s5 + 1, max 1 (s5 - 1)]) >>= fun xs37 => forR (fun (s31 : Unit) (x32 : Int) =>
(((m_law_even edges x32 hues) >>= fun t33 => m_law_asked edges x32 hues t33) >>= fun t34 => pure (!t34)) >>= fun c35 => if c35 = true then (
(pure false) >>= fun r36 => pure (Step.rt r36))
else (
pure (Step.nx ()))) xs37 ()) >>= fun t40 => (match t40 with
| Step.rt r39 => pure r39
| Step.nx s38 =>
(m_hues_evenT edges s5 hues) >>= fun last =>
if (decide (last = true)) = true then m_law_returned script row else pure false))))
theorem x_law : ∃ g : (List Int) → Out Bool, g = b_law := ⟨_, rfl⟩
def m_law : (List Int) → Out Bool := Classical.choose x_law
theorem m_law_eq : m_law = b_law := Classical.choose_spec x_law
abbrev P_law : Par ((List Int) × Unit) := (pC (tLstQ tInt) pN)
abbrev u_law (i : (List Int) × Unit) : Out Bool := m_law i.1
theorem sc_law : FnScope ["script", "row", "count", "mixed", "edges", "hues", "part", "k", "changed", "one", "other", "last", "edge"] ["script"] (defScope s_law) := ⟨rfl, rfl, rfl, by decide +kernel, rfl, by decide +kernel, by decide +kernel⟩
abbrev sp_law (K : PySem.W.Frag) : Sp := Sps P_law u_law tBool K
theorem ok_law {fd : FuncData} (Z : Fre mg) (F : FunD K "law" "law" (defArgs s_law) (defBody s_law) (defScope s_law) [] [] (He.fAd K ("law", none)) fd) (G_law_cell : Def Pr w K mg base 1 "_law_cell" ["script", "k"] [] (sp_law_cell K)) (G_law_digits : Def Pr w K mg base 1 "_law_digits" ["cell", "sizes"] [] (sp_law_digits K)) (G_law_built : Def Pr w K mg base 2 "_law_built" ["script", "row", "count"] [] (sp_law_built K)) (G_law_mixed : Def Pr w K mg base 2 "_law_mixed" ["built", "row"] [] (sp_law_mixed K)) (G_law_asked : Def Pr w K mg base 2 "_law_asked" ["edges", "count", "hues", "due"] [] (sp_law_asked K)) (G_law_changed : Def Pr w K mg base 2 "_law_changed" ["edges", "count", "hues", "part"] [] (sp_law_changed K)) (G_law_even : Def Pr w K mg base 2 "_law_even" ["edges", "count", "hues"] [] (sp_law_even K)) (G_hues_evenT : Def Pr w K mg base 1 "hues_even" ["edges", "count", "hues"] [] (sp_hues_evenT K)) (G_law_returned : Def Pr w K mg base 11 "_law_returned" ["script", "row"] [] (sp_law_returned K))  : FnOk Pr w K mg base (L2.CX Pr w) 12 (He.fAd K ("law", none)) fd ["script"] (sp_law K) := by
  refine fn_body F sc_law rfl (by decide) (fun X E B i e1 e2 e3 e4 e5 hW C => ?_)
  subst e1 e2 e3 e4 e5
  obtain ⟨script, _⟩ := i
  show WS X E B [iS (tLstQ tInt) script, .any, .any, .any, .any, .any, .any, .any, .any, .any, .any, .any, .any] [_] (m_law script) _
  rw [m_law_eq]
  unfold b_law
  exact ws_set C 1 (WE.cast (m' := (m_law_cell script 0) >>= fun t1 => m_law_digits t1 [30, 4, 16, 100000, 1000, 1000, 6, 24, 33, 9, 9, 9, 30]) (WO.fz (wo_call C G_law_digits (by decide) (wa_cons (R := tInt.rl) (WE.cast (m' := m_law_cell script 0) (we_call C G_law_cell (by decide) (wa_cons (R := (tLstQ tInt).rl) (we_var C 0) fun a0 => wa_cons (R := tInt.rl) we_int fun a1 => wa_nil fun K F H s v1 r1 v0 r0 => ⟨(a0, a1, ()), rfl, v0, _, rfl, r0, v1, _, rfl, r1, rfl⟩)) (by first | (simp only [pure_b, bind_as]; done) | rfl)) fun a0 => wa_cons (R := (tLst tInt).rl) (WO.fz (wo_lst (wal_cons we_int (wal_cons we_int (wal_cons we_int (wal_cons we_int (wal_cons we_int (wal_cons we_int (wal_cons we_int (wal_cons we_int (wal_cons we_int (wal_cons we_int (wal_cons we_int (wal_cons we_int (wal_cons we_int wal_nil)))))))))))))) (fz_lst _)) fun a1 => wa_nil fun K F H s v1 r1 v0 r0 => ⟨(a0, a1, ()), rfl, v0, _, rfl, r0, v1, _, rfl, r1, rfl⟩)) (fz_lst _)) (by first | (simp only [pure_b, bind_as]; done) | rfl)) (fun row =>
ws_set C 2 (WE.cast (m' := (idx row 0) >>= fun t2 => pure (1 + t2)) (we_add we_int (we_ixL (WE.rd (we_var C 1)) we_int)) (by first | rfl | simp only [bind_as, pure_b])) (fun count =>
ws_seq (Δ := (fun (s5 : Int) => [iS (tLstQ tInt) script, iS (tLst tInt) row, iS tInt s5, .any, .any, .any, .any, .any, .any, .any, .any, .any, .any])) (w1_if (WT.cast (m' := (idx row 0) >>= fun t3 => pure (decide (24 ≤ t3))) (wt_ge (we_ixL (WE.rd (we_var C 1)) we_int) we_int) (by first | rfl | simp only [bind_as, pure_b])) (
ws_set C 2 (WE.cast (m' := ((idx row 0) >>= fun t6 => pure (t6 - 24)) >>= fun t7 => idx [2, 3, 25, 99, 2, 60] t7) (we_ixL (WO.rd (wo_lst (wal_cons we_int (wal_cons we_int (wal_cons we_int (wal_cons we_int (wal_cons we_int (wal_cons we_int wal_nil)))))))) (we_sub (we_ixL (WE.rd (we_var C 1)) we_int) we_int)) (by first | rfl | simp only [bind_as, pure_b])) (fun count =>
ws_fin rfl (Weak.same (Weak.same (Weak.same (Weak.same (Weak.same (Weak.same (Weak.same (Weak.same (Weak.same (Weak.same (Weak.same (Weak.same (Weak.same Weak.nil))))))))))))))) (
ws_fin rfl (Weak.same (Weak.same (Weak.same (Weak.same (Weak.same (Weak.same (Weak.same (Weak.same (Weak.same (Weak.same (Weak.same (Weak.same (Weak.same Weak.nil))))))))))))))) (fun s5 =>
ws_set C 3 (WE.cast (m' := (m_law_built script row s5) >>= fun t8 => m_law_mixed t8 row) (we_call C G_law_mixed (by decide) (wa_cons (R := (tL2 (tLst (tT2 tInt tInt)) (tLst tInt)).rl) (WE.cast (m' := m_law_built script row s5) (we_call C G_law_built (by decide) (wa_cons (R := (tLstQ tInt).rl) (we_var C 0) fun a0 => wa_cons (R := (tLst tInt).rl) (we_var C 1) fun a1 => wa_cons (R := tInt.rl) (we_var C 2) fun a2 => wa_nil fun K F H s v2 r2 v1 r1 v0 r0 => ⟨(a0, a1, a2, ()), rfl, v0, _, rfl, r0, v1, _, rfl, r1, v2, _, rfl, r2, rfl⟩)) (by first | (simp only [pure_b, bind_as]; done) | rfl)) fun a0 => wa_cons (R := (tLst tInt).rl) (we_var C 1) fun a1 => wa_nil fun K F H s v1 r1 v0 r0 => ⟨(a0, a1, ()), rfl, v0, _, rfl, r0, v1, _, rfl, r1, rfl⟩)) (by first | (simp only [pure_b, bind_as]; done) | rfl)) (fun mixed =>
ws_set C 4 (WE.cast (m' := pure mixed.1) (we_prj pl20 (we_var C 3)) (by first | rfl | simp only [bind_as, pure_b])) (fun edges =>
ws_set C 5 (WE.cast (m' := pure mixed.2) (we_prj pl21 (we_var C 3)) (by first | rfl | simp only [bind_as, pure_b])) (fun hues =>
ws_if (WT.cast (m' := ((m_law_asked edges s5 hues true) >>= fun t9 => pure (!t9)) >>= fun t11 => if t11 = true then pure true else (m_law_asked ([] : List (Int × Int)) s5 ([] : List Int) true) >>= fun t10 => pure (!t10)) (wt_b (wb_or (wt_not (wt_val (we_call C G_law_asked (by decide) (wa_cons (R := (tLst (tT2 tInt tInt)).rl) (we_var C 4) fun a0 => wa_cons (R := tInt.rl) (we_var C 2) fun a1 => wa_cons (R := (tLst tInt).rl) (we_var C 5) fun a2 => wa_cons (R := tBool.rl) we_bl fun a3 => wa_nil fun K F H s v3 r3 v2 r2 v1 r1 v0 r0 => ⟨(a0, a1, a2, a3, ()), rfl, v0, _, rfl, r0, v1, _, rfl, r1, v2, _, rfl, r2, v3, _, rfl, r3, rfl⟩)))) (wb_or1 (wt_not (wt_val (we_call C G_law_asked (by decide) (wa_cons (R := (tLst (tT2 tInt tInt)).rl) (WO.fz (wo_lst (wal_nil (T := (tT2 tInt tInt)))) (fz_lst _)) fun a0 => wa_cons (R := tInt.rl) (we_var C 2) fun a1 => wa_cons (R := (tLst tInt).rl) (WO.fz (wo_lst (wal_nil (T := tInt))) (fz_lst _)) fun a2 => wa_cons (R := tBool.rl) we_bl fun a3 => wa_nil fun K F H s v3 r3 v2 r2 v1 r1 v0 r0 => ⟨(a0, a1, a2, a3, ()), rfl, v0, _, rfl, r0, v1, _, rfl, r1, v2, _, rfl, r2, v3, _, rfl, r3, rfl⟩))))))) (by first | (simp only [pure_b, bind_as]; done) | rfl)) (
ws_ret0 (WE.cast (m' := pure false) we_bl (by first | rfl | simp only [bind_as, pure_b])) (fun _ => rfl)) (
ws_pop (ws_set C 6 (WE.cast (m' := (m_law_cell script 6) >>= fun t13 => m_law_digits t13 [9, 2000, 60, 9, 2000, 60, 9, 2000, 60, 9, 2000, 60]) (WO.fz (wo_call C G_law_digits (by decide) (wa_cons (R := tInt.rl) (WE.cast (m' := m_law_cell script 6) (we_call C G_law_cell (by decide) (wa_cons (R := (tLstQ tInt).rl) (we_var C 0) fun a0 => wa_cons (R := tInt.rl) we_int fun a1 => wa_nil fun K F H s v1 r1 v0 r0 => ⟨(a0, a1, ()), rfl, v0, _, rfl, r0, v1, _, rfl, r1, rfl⟩)) (by first | (simp only [pure_b, bind_as]; done) | rfl)) fun a0 => wa_cons (R := (tLst tInt).rl) (WO.fz (wo_lst (wal_cons we_int (wal_cons we_int (wal_cons we_int (wal_cons we_int (wal_cons we_int (wal_cons we_int (wal_cons we_int (wal_cons we_int (wal_cons we_int (wal_cons we_int (wal_cons we_int (wal_cons we_int wal_nil))))))))))))) (fz_lst _)) fun a1 => wa_nil fun K F H s v1 r1 v0 r0 => ⟨(a0, a1, ()), rfl, v0, _, rfl, r0, v1, _, rfl, r1, rfl⟩)) (fz_lst _)) (by first | (simp only [pure_b, bind_as]; done) | rfl)) (fun part =>
ws_set C 6 (WE.cast (m' := ((m_law_cell script 5) >>= fun t14 => m_law_digits t14 [9, 2000, 60, 9, 2000, 60, 9, 2000, 60, 9, 2000, 60]) >>= fun t15 => catO part t15) (WO.fz (wo_cat (WE.rh (we_var C 6)) (WO.rh (wo_call C G_law_digits (by decide) (wa_cons (R := tInt.rl) (WE.cast (m' := m_law_cell script 5) (we_call C G_law_cell (by decide) (wa_cons (R := (tLstQ tInt).rl) (we_var C 0) fun a0 => wa_cons (R := tInt.rl) we_int fun a1 => wa_nil fun K F H s v1 r1 v0 r0 => ⟨(a0, a1, ()), rfl, v0, _, rfl, r0, v1, _, rfl, r1, rfl⟩)) (by first | (simp only [pure_b, bind_as]; done) | rfl)) fun a0 => wa_cons (R := (tLst tInt).rl) (WO.fz (wo_lst (wal_cons we_int (wal_cons we_int (wal_cons we_int (wal_cons we_int (wal_cons we_int (wal_cons we_int (wal_cons we_int (wal_cons we_int (wal_cons we_int (wal_cons we_int (wal_cons we_int (wal_cons we_int wal_nil))))))))))))) (fz_lst _)) fun a1 => wa_nil fun K F H s v1 r1 v0 r0 => ⟨(a0, a1, ()), rfl, v0, _, rfl, r0, v1, _, rfl, r1, rfl⟩)))) (fz_lst _)) (by first | (simp only [pure_b, bind_as]; done) | rfl)) (fun part =>
ws_cons (D1 := DR (fun (s16 : Unit) => [iS (tLstQ tInt) script, iS (tLst tInt) row, iS tInt s5, iS (tL2 (tLst (tT2 tInt tInt)) (tLst tInt)) mixed, iS (tLst (tT2 tInt tInt)) edges, iS (tLst tInt) hues, iS (tLst tInt) part, .any, .any, .any, .any, .any, .any]) (fun b => .rt _ tBool b)) (w1_forR C (WI.cast (m' := pure (upto 8)) (WI.cast (wi_range C Z we_int) rfl) (by first | rfl | simp only [bind_as, pure_b])) (wg_name C 7) (Δ := (fun (s16 : Unit) => [iS (tLstQ tInt) script, iS (tLst tInt) row, iS tInt s5, iS (tL2 (tLst (tT2 tInt tInt)) (tLst tInt)) mixed, iS (tLst (tT2 tInt tInt)) edges, iS (tLst tInt) hues, iS (tLst tInt) part, .any, .any, .any, .any, .any, .any])) (s0 := ()) (Rt := (fun b => .rt _ tBool b)) (Weak.same (Weak.same (Weak.same (Weak.same (Weak.same (Weak.same (Weak.same (Weak.same (Weak.same (Weak.same (Weak.same (Weak.same (Weak.same Weak.nil))))))))))))) (by exact (fun s16 x17 =>
ws_set C 8 (WE.cast (m' := m_law_changed edges s5 hues (cut part (some (3 * x17)) (some ((3 * x17) + 3)))) (WO.fz (wo_call C G_law_changed (by decide) (wa_cons (R := (tLst (tT2 tInt tInt)).rl) (we_var C 4) fun a0 => wa_cons (R := tInt.rl) (we_var C 2) fun a1 => wa_cons (R := (tLst tInt).rl) (we_var C 5) fun a2 => wa_cons (R := (tLst tInt).rl) (WO.fz (wo_cut (WE.rd (we_var C 6)) (wp_is (we_mulL we_int (we_var C 7))) (wp_is (we_add (we_mulL we_int (we_var C 7)) we_int))) (fz_lst _)) fun a3 => wa_nil fun K F H s v3 r3 v2 r2 v1 r1 v0 r0 => ⟨(a0, a1, a2, a3, ()), rfl, v0, _, rfl, r0, v1, _, rfl, r1, v2, _, rfl, r2, v3, _, rfl, r3, rfl⟩)) (fz_lst _)) (by first | (simp only [pure_b, bind_as]; done) | rfl)) (fun changed =>
ws_if (WT.cast (m' := ((m_law_even edges s5 changed) >>= fun t18 => m_law_asked edges s5 changed t18) >>= fun t19 => pure (!t19)) (wt_not (wt_val (we_call C G_law_asked (by decide) (wa_cons (R := (tLst (tT2 tInt tInt)).rl) (we_var C 4) fun a0 => wa_cons (R := tInt.rl) (we_var C 2) fun a1 => wa_cons (R := (tLst tInt).rl) (we_var C 8) fun a2 => wa_cons (R := tBool.rl) (WE.cast (m' := m_law_even edges s5 changed) (we_call C G_law_even (by decide) (wa_cons (R := (tLst (tT2 tInt tInt)).rl) (we_var C 4) fun a0 => wa_cons (R := tInt.rl) (we_var C 2) fun a1 => wa_cons (R := (tLst tInt).rl) (we_var C 8) fun a2 => wa_nil fun K F H s v2 r2 v1 r1 v0 r0 => ⟨(a0, a1, a2, ()), rfl, v0, _, rfl, r0, v1, _, rfl, r1, v2, _, rfl, r2, rfl⟩)) (by first | (simp only [pure_b, bind_as]; done) | rfl)) fun a3 => wa_nil fun K F H s v3 r3 v2 r2 v1 r1 v0 r0 => ⟨(a0, a1, a2, a3, ()), rfl, v0, _, rfl, r0, v1, _, rfl, r1, v2, _, rfl, r2, v3, _, rfl, r3, rfl⟩)))) (by first | (simp only [pure_b, bind_as]; done) | rfl)) (
ws_ret (g := Step.rt) (WE.cast (m' := pure false) we_bl (by first | rfl | simp only [bind_as, pure_b])) (fun _ => rfl)) (
ws_pop (ws_fin rfl (Weak.same (Weak.same (Weak.same (Weak.same (Weak.same (Weak.same (Weak.same (Weak.any (Weak.any (Weak.same (Weak.same (Weak.same (Weak.same Weak.nil)))))))))))))))))) (fun r => .inl ⟨_, _, _, rfl⟩)) (fun t42 => match t42 with
| Step.rt r41 => .inr ⟨trivial, r41, rfl, rfl⟩
| Step.nx s23 => .inl ⟨_, rfl, (
ws_lc (f := _) C 9 [("edge", 12)] (by decide +kernel) (WI.cast (m' := pure edges) (wi_lst (we_var C 4)) (by first | rfl | simp only [bind_as, pure_b])) (ix := [12]) (by decide) (fun s_ H_ Cc_ cl_ fp_ C => (wg_name C 12)) (fun s_ H_ Cc_ cl_ fp_ edge24 C => WE.cast (m' := ((idx part 2) >>= fun t25 => pure t25) >>= fun t26 => modO t26 s5) (we_mod (we_intI C Z (we_ixL (WE.rd (we_var C 6)) we_int)) (we_var C 2)) (by first | rfl | simp only [bind_as, pure_b])) (fun one => ws_fz 9 (fz_lst _) hW rfl (
ws_if (WT.cast (m' := ((m_law_even edges s5 one) >>= fun t28 => m_law_asked edges s5 one t28) >>= fun t29 => pure (!t29)) (wt_not (wt_val (we_call C G_law_asked (by decide) (wa_cons (R := (tLst (tT2 tInt tInt)).rl) (we_var C 4) fun a0 => wa_cons (R := tInt.rl) (we_var C 2) fun a1 => wa_cons (R := (tLst tInt).rl) (we_var C 9) fun a2 => wa_cons (R := tBool.rl) (WE.cast (m' := m_law_even edges s5 one) (we_call C G_law_even (by decide) (wa_cons (R := (tLst (tT2 tInt tInt)).rl) (we_var C 4) fun a0 => wa_cons (R := tInt.rl) (we_var C 2) fun a1 => wa_cons (R := (tLst tInt).rl) (we_var C 9) fun a2 => wa_nil fun K F H s v2 r2 v1 r1 v0 r0 => ⟨(a0, a1, a2, ()), rfl, v0, _, rfl, r0, v1, _, rfl, r1, v2, _, rfl, r2, rfl⟩)) (by first | (simp only [pure_b, bind_as]; done) | rfl)) fun a3 => wa_nil fun K F H s v3 r3 v2 r2 v1 r1 v0 r0 => ⟨(a0, a1, a2, a3, ()), rfl, v0, _, rfl, r0, v1, _, rfl, r1, v2, _, rfl, r2, v3, _, rfl, r3, rfl⟩)))) (by first | (simp only [pure_b, bind_as]; done) | rfl)) (
ws_ret0 (WE.cast (m' := pure false) we_bl (by first | rfl | simp only [bind_as, pure_b])) (fun _ => rfl)) (
ws_pop (ws_cons (D1 := DR (fun (s31 : Unit) => [iS (tLstQ tInt) script, iS (tLst tInt) row, iS tInt s5, iS (tL2 (tLst (tT2 tInt tInt)) (tLst tInt)) mixed, iS (tLst (tT2 tInt tInt)) edges, iS (tLst tInt) hues, iS (tLst tInt) part, .any, .any, iS (tLst tInt) one, .any, .any, .any]) (fun b => .rt _ tBool b)) (w1_forR C (WI.cast (m' := pure [s5 + 1, max 1 (s5 - 1)]) (wi_lst (WO.fz (wo_lst (wal_cons (we_add (we_var C 2) we_int) (wal_cons (we_max2 C Z we_int (we_sub (we_var C 2) we_int)) wal_nil))) (fz_lst _))) (by first | rfl | simp only [bind_as, pure_b])) (wg_name C 10) (Δ := (fun (s31 : Unit) => [iS (tLstQ tInt) script, iS (tLst tInt) row, iS tInt s5, iS (tL2 (tLst (tT2 tInt tInt)) (tLst tInt)) mixed, iS (tLst (tT2 tInt tInt)) edges, iS (tLst tInt) hues, iS (tLst tInt) part, .any, .any, iS (tLst tInt) one, .any, .any, .any])) (s0 := ()) (Rt := (fun b => .rt _ tBool b)) (Weak.same (Weak.same (Weak.same (Weak.same (Weak.same (Weak.same (Weak.same (Weak.same (Weak.same (Weak.same (Weak.same (Weak.same (Weak.same Weak.nil))))))))))))) (by exact (fun s31 x32 =>
ws_if (WT.cast (m' := ((m_law_even edges x32 hues) >>= fun t33 => m_law_asked edges x32 hues t33) >>= fun t34 => pure (!t34)) (wt_not (wt_val (we_call C G_law_asked (by decide) (wa_cons (R := (tLst (tT2 tInt tInt)).rl) (we_var C 4) fun a0 => wa_cons (R := tInt.rl) (we_var C 10) fun a1 => wa_cons (R := (tLst tInt).rl) (we_var C 5) fun a2 => wa_cons (R := tBool.rl) (WE.cast (m' := m_law_even edges x32 hues) (we_call C G_law_even (by decide) (wa_cons (R := (tLst (tT2 tInt tInt)).rl) (we_var C 4) fun a0 => wa_cons (R := tInt.rl) (we_var C 10) fun a1 => wa_cons (R := (tLst tInt).rl) (we_var C 5) fun a2 => wa_nil fun K F H s v2 r2 v1 r1 v0 r0 => ⟨(a0, a1, a2, ()), rfl, v0, _, rfl, r0, v1, _, rfl, r1, v2, _, rfl, r2, rfl⟩)) (by first | (simp only [pure_b, bind_as]; done) | rfl)) fun a3 => wa_nil fun K F H s v3 r3 v2 r2 v1 r1 v0 r0 => ⟨(a0, a1, a2, a3, ()), rfl, v0, _, rfl, r0, v1, _, rfl, r1, v2, _, rfl, r2, v3, _, rfl, r3, rfl⟩)))) (by first | (simp only [pure_b, bind_as]; done) | rfl)) (
ws_ret (g := Step.rt) (WE.cast (m' := pure false) we_bl (by first | rfl | simp only [bind_as, pure_b])) (fun _ => rfl)) (
ws_pop (ws_fin rfl (Weak.same (Weak.same (Weak.same (Weak.same (Weak.same (Weak.same (Weak.same (Weak.same (Weak.same (Weak.same (Weak.any (Weak.same (Weak.same Weak.nil))))))))))))))))) (fun r => .inl ⟨_, _, _, rfl⟩)) (fun t40 => match t40 with
| Step.rt r39 => .inr ⟨trivial, r39, rfl, rfl⟩
| Step.nx s38 => .inl ⟨_, rfl, (
ws_set C 11 (WE.cast (m' := m_hues_evenT edges s5 hues) (we_call C G_hues_evenT (by decide) (wa_cons (R := (tTup (tT2 tInt tInt)).rl) (we_tuple C Z (WE.rd (we_var C 4))) fun a0 => wa_cons (R := tInt.rl) (we_var C 2) fun a1 => wa_cons (R := (tTup tInt).rl) (we_tuple C Z (WE.rd (we_var C 5))) fun a2 => wa_nil fun K F H s v2 r2 v1 r1 v0 r0 => ⟨(a0, a1, a2, ()), rfl, v0, _, rfl, r0, v1, _, rfl, r1, v2, _, rfl, r2, rfl⟩)) (by first | (simp only [pure_b, bind_as]; done) | rfl)) (fun last =>
ws_ret0 (WE.cast (m' := if (decide (last = true)) = true then m_law_returned script row else pure false) (we_and (we_isB (we_var C 11) we_bl) (we_bo1 (we_call C G_law_returned (by decide) (wa_cons (R := (tLstQ tInt).rl) (we_var C 0) fun a0 => wa_cons (R := (tLst tInt).rl) (we_var C 1) fun a1 => wa_nil fun K F H s v1 r1 v0 r0 => ⟨(a0, a1, ()), rfl, v0, _, rfl, r0, v1, _, rfl, r1, rfl⟩)))) (by first | (simp only [pure_b, bind_as]; done) | rfl)) (fun _ => rfl)))⟩))))))⟩)))))))))))
end
def d_law_whole : He.DefD := ⟨("_law_whole", none), "_law_whole", "_law_whole", defArgs s_law_whole, defBody s_law_whole, defScope s_law_whole, [], []⟩
def d_law_cell : He.DefD := ⟨("_law_cell", none), "_law_cell", "_law_cell", defArgs s_law_cell, defBody s_law_cell, defScope s_law_cell, [], []⟩
def d_law_digits : He.DefD := ⟨("_law_digits", none), "_law_digits", "_law_digits", defArgs s_law_digits, defBody s_law_digits, defScope s_law_digits, [], []⟩
def d_law_number : He.DefD := ⟨("_law_number", none), "_law_number", "_law_number", defArgs s_law_number, defBody s_law_number, defScope s_law_number, [], []⟩
def d_law_built : He.DefD := ⟨("_law_built", none), "_law_built", "_law_built", defArgs s_law_built, defBody s_law_built, defScope s_law_built, [], []⟩
def d_law_mixed : He.DefD := ⟨("_law_mixed", none), "_law_mixed", "_law_mixed", defArgs s_law_mixed, defBody s_law_mixed, defScope s_law_mixed, [], []⟩
def d_law_even_side : He.DefD := ⟨("_law_even_side", none), "_law_even_side", "_law_even_side", defArgs s_law_even_side, defBody s_law_even_side, defScope s_law_even_side, [], []⟩
def d_law_even : He.DefD := ⟨("_law_even", none), "_law_even", "_law_even", defArgs s_law_even, defBody s_law_even, defScope s_law_even, [], []⟩
def d_hues_even : He.DefD := ⟨("hues_even", none), "hues_even", "hues_even", defArgs s_hues_even, defBody s_hues_even, defScope s_hues_even, [], []⟩
def d_law_asked : He.DefD := ⟨("_law_asked", none), "_law_asked", "_law_asked", defArgs s_law_asked, defBody s_law_asked, defScope s_law_asked, [], []⟩
def d_law_partner : He.DefD := ⟨("_law_partner", none), "_law_partner", "_law_partner", defArgs s_law_partner, defBody s_law_partner, defScope s_law_partner, [], []⟩
def d_law_changed : He.DefD := ⟨("_law_changed", none), "_law_changed", "_law_changed", defArgs s_law_changed, defBody s_law_changed, defScope s_law_changed, [], []⟩
def d_empty_rows : He.DefD := ⟨("empty_rows", none), "empty_rows", "empty_rows", defArgs s_empty_rows, defBody s_empty_rows, defScope s_empty_rows, [], []⟩
def d_set_edge : He.DefD := ⟨("set_edge", none), "set_edge", "set_edge", defArgs s_set_edge, defBody s_set_edge, defScope s_set_edge, [], []⟩
def d_chain_of : He.DefD := ⟨("chain_of", none), "chain_of", "chain_of", defArgs s_chain_of, defBody s_chain_of, defScope s_chain_of, [], []⟩
def d_turn_chain : He.DefD := ⟨("turn_chain", none), "turn_chain", "turn_chain", defArgs s_turn_chain, defBody s_turn_chain, defScope s_turn_chain, [], []⟩
def d_proper_hues : He.DefD := ⟨("proper_hues", none), "proper_hues", "proper_hues", defArgs s_proper_hues, defBody s_proper_hues, defScope s_proper_hues, [], []⟩
def d_grouped : He.DefD := ⟨("grouped", none), "grouped", "grouped", defArgs s_grouped, defBody s_grouped, defScope s_grouped, [], []⟩
def d_frozen : He.DefD := ⟨("frozen", none), "frozen", "frozen", defArgs s_frozen, defBody s_frozen, defScope s_frozen, [], []⟩
def d_even_hues : He.DefD := ⟨("even_hues", none), "even_hues", "even_hues", defArgs s_even_hues, defBody s_even_hues, defScope s_even_hues, [], []⟩
def d_law_returned : He.DefD := ⟨("_law_returned", none), "_law_returned", "_law_returned", defArgs s_law_returned, defBody s_law_returned, defScope s_law_returned, [], []⟩
def d_law : He.DefD := ⟨("law", none), "law", "law", defArgs s_law, defBody s_law, defScope s_law, [], []⟩
def fn : List He.DefD := [d_law_whole, d_law_cell, d_law_digits, d_law_number, d_law_built, d_law_mixed, d_law_even_side, d_law_even, d_hues_even, d_law_asked, d_law_partner, d_law_changed, d_empty_rows, d_set_edge, d_chain_of, d_turn_chain, d_proper_hues, d_grouped, d_frozen, d_even_hues, d_law_returned, d_law]
def fa : List He.Fa := [.free "len", .free "range", .free "int", .free "isinstance", .free "list", .free "tuple", .free "enumerate", .free "max", .free "min", .free "sorted", .free "set", .free "any", .free "all", .free "sum", .free "zip", .free "abs", .free "bool", .free "str", .free "ValueError", .free "reversed", .glo "_law_whole", .glo "_law_cell", .glo "_law_digits", .glo "_law_number", .glo "_law_built", .glo "_law_mixed", .glo "_law_even_side", .glo "_law_even", .glo "hues_even", .glo "_law_asked", .glo "_law_partner", .glo "_law_changed", .glo "empty_rows", .glo "set_edge", .glo "chain_of", .glo "turn_chain", .glo "proper_hues", .glo "grouped", .glo "frozen", .glo "even_hues", .glo "_law_returned", .glo "law", .int "MOST_HUES" 24]
abbrev RR : PySem.W.OpenRow := PySem.W.OpenLaw.row PySem.Challenge.rw_sloweralone_k18_even_hues_judge
abbrev hk : PySem.W.Hook := He.hookD 4 fa fn
def ob (s : PySem.W.SharedT) : He.AlD := He.obsDG 4 fa fn (HandSHeadRun.getT s)
theorem ob_eq (s : PySem.W.SharedT) : ob s = hk.obs s.abs := He.obsDG_eq (HandSHeadRun.getT_eq s)
def loose : List Str := ["__name__", "OfficeError", "BadHues", "frozen", "MOST_HUES", "empty_rows", "set_edge", "chain_of", "turn_chain", "proper_hues", "grouped", "even_hues", "hues_even", "_law_whole", "_law_cell", "_law_digits", "_law_number", "_law_built", "_law_mixed", "_law_even_side", "_law_even", "_law_asked", "_law_partner", "_law_changed", "_law_returned"]
set_option maxHeartbeats 0 in
theorem run (w : World) : HandSHeadRun.RunEq RR (PySem.W.view RR.prog [28]) hk ob 2000 loose w := by
  intro os
  kernel_rfl
theorem facts {P : Program} {w : World} {K : PySem.W.Frag} {h : Heap} {mg : Str → Option Value} {f : Addr} (X : K.In h) (G : h.Ns mainGlobals mg) (hfa : mg ("law" : Str) = some (.ref f)) (c : He.SaysD fa fn K) :
    ∃ fd : FuncData, (∀ (s : Shared) (v : Value), BindsTo s fd ⟨[v], []⟩ [("script", v)]) ∧ ∀ base : Heap, K.In base → base.Ns mainGlobals mg → FnOk P w K mg base (L2.CX P w) 12 f fd ["script"] (sp_law K) := by
  have Z : Fre mg := ⟨He.free_ok X G (c.fact 0), He.free_ok X G (c.fact 1), He.free_ok X G (c.fact 2), He.free_ok X G (c.fact 3), He.free_ok X G (c.fact 4), He.free_ok X G (c.fact 5), He.free_ok X G (c.fact 6), He.free_ok X G (c.fact 7), He.free_ok X G (c.fact 8), He.free_ok X G (c.fact 9), He.free_ok X G (c.fact 10), He.free_ok X G (c.fact 11), He.free_ok X G (c.fact 12), He.free_ok X G (c.fact 13), He.free_ok X G (c.fact 14), He.free_ok X G (c.fact 15), He.free_ok X G (c.fact 16), He.free_ok X G (c.fact 17), He.free_ok X G (c.fact 18), He.free_ok X G (c.fact 19)⟩
  have g_law_whole : mg ("_law_whole" : Str) = some (.ref (He.fAd K ("_law_whole", none))) := He.glo_ok X G (c.fact 20)
  obtain ⟨fd_law_whole, F_law_whole⟩ := c.def_ 0 (d := d_law_whole)
  have g_law_cell : mg ("_law_cell" : Str) = some (.ref (He.fAd K ("_law_cell", none))) := He.glo_ok X G (c.fact 21)
  obtain ⟨fd_law_cell, F_law_cell⟩ := c.def_ 1 (d := d_law_cell)
  have g_law_digits : mg ("_law_digits" : Str) = some (.ref (He.fAd K ("_law_digits", none))) := He.glo_ok X G (c.fact 22)
  obtain ⟨fd_law_digits, F_law_digits⟩ := c.def_ 2 (d := d_law_digits)
  have g_law_number : mg ("_law_number" : Str) = some (.ref (He.fAd K ("_law_number", none))) := He.glo_ok X G (c.fact 23)
  obtain ⟨fd_law_number, F_law_number⟩ := c.def_ 3 (d := d_law_number)
  have g_law_built : mg ("_law_built" : Str) = some (.ref (He.fAd K ("_law_built", none))) := He.glo_ok X G (c.fact 24)
  obtain ⟨fd_law_built, F_law_built⟩ := c.def_ 4 (d := d_law_built)
  have g_law_mixed : mg ("_law_mixed" : Str) = some (.ref (He.fAd K ("_law_mixed", none))) := He.glo_ok X G (c.fact 25)
  obtain ⟨fd_law_mixed, F_law_mixed⟩ := c.def_ 5 (d := d_law_mixed)
  have g_law_even_side : mg ("_law_even_side" : Str) = some (.ref (He.fAd K ("_law_even_side", none))) := He.glo_ok X G (c.fact 26)
  obtain ⟨fd_law_even_side, F_law_even_side⟩ := c.def_ 6 (d := d_law_even_side)
  have g_law_even : mg ("_law_even" : Str) = some (.ref (He.fAd K ("_law_even", none))) := He.glo_ok X G (c.fact 27)
  obtain ⟨fd_law_even, F_law_even⟩ := c.def_ 7 (d := d_law_even)
  have g_hues_even : mg ("hues_even" : Str) = some (.ref (He.fAd K ("hues_even", none))) := He.glo_ok X G (c.fact 28)
  obtain ⟨fd_hues_even, F_hues_even⟩ := c.def_ 8 (d := d_hues_even)
  have g_law_asked : mg ("_law_asked" : Str) = some (.ref (He.fAd K ("_law_asked", none))) := He.glo_ok X G (c.fact 29)
  obtain ⟨fd_law_asked, F_law_asked⟩ := c.def_ 9 (d := d_law_asked)
  have g_law_partner : mg ("_law_partner" : Str) = some (.ref (He.fAd K ("_law_partner", none))) := He.glo_ok X G (c.fact 30)
  obtain ⟨fd_law_partner, F_law_partner⟩ := c.def_ 10 (d := d_law_partner)
  have g_law_changed : mg ("_law_changed" : Str) = some (.ref (He.fAd K ("_law_changed", none))) := He.glo_ok X G (c.fact 31)
  obtain ⟨fd_law_changed, F_law_changed⟩ := c.def_ 11 (d := d_law_changed)
  have g_empty_rows : mg ("empty_rows" : Str) = some (.ref (He.fAd K ("empty_rows", none))) := He.glo_ok X G (c.fact 32)
  obtain ⟨fd_empty_rows, F_empty_rows⟩ := c.def_ 12 (d := d_empty_rows)
  have g_set_edge : mg ("set_edge" : Str) = some (.ref (He.fAd K ("set_edge", none))) := He.glo_ok X G (c.fact 33)
  obtain ⟨fd_set_edge, F_set_edge⟩ := c.def_ 13 (d := d_set_edge)
  have g_chain_of : mg ("chain_of" : Str) = some (.ref (He.fAd K ("chain_of", none))) := He.glo_ok X G (c.fact 34)
  obtain ⟨fd_chain_of, F_chain_of⟩ := c.def_ 14 (d := d_chain_of)
  have g_turn_chain : mg ("turn_chain" : Str) = some (.ref (He.fAd K ("turn_chain", none))) := He.glo_ok X G (c.fact 35)
  obtain ⟨fd_turn_chain, F_turn_chain⟩ := c.def_ 15 (d := d_turn_chain)
  have g_proper_hues : mg ("proper_hues" : Str) = some (.ref (He.fAd K ("proper_hues", none))) := He.glo_ok X G (c.fact 36)
  obtain ⟨fd_proper_hues, F_proper_hues⟩ := c.def_ 16 (d := d_proper_hues)
  have g_grouped : mg ("grouped" : Str) = some (.ref (He.fAd K ("grouped", none))) := He.glo_ok X G (c.fact 37)
  obtain ⟨fd_grouped, F_grouped⟩ := c.def_ 17 (d := d_grouped)
  have g_frozen : mg ("frozen" : Str) = some (.ref (He.fAd K ("frozen", none))) := He.glo_ok X G (c.fact 38)
  obtain ⟨fd_frozen, F_frozen⟩ := c.def_ 18 (d := d_frozen)
  have g_even_hues : mg ("even_hues" : Str) = some (.ref (He.fAd K ("even_hues", none))) := He.glo_ok X G (c.fact 39)
  obtain ⟨fd_even_hues, F_even_hues⟩ := c.def_ 19 (d := d_even_hues)
  have g_law_returned : mg ("_law_returned" : Str) = some (.ref (He.fAd K ("_law_returned", none))) := He.glo_ok X G (c.fact 40)
  obtain ⟨fd_law_returned, F_law_returned⟩ := c.def_ 20 (d := d_law_returned)
  have g_law : mg ("law" : Str) = some (.ref (He.fAd K ("law", none))) := He.glo_ok X G (c.fact 41)
  obtain ⟨fd_law, F_law⟩ := c.def_ 21 (d := d_law)
  have c_MOST_HUES := He.int_ok X G (c.fact 42 (f := .int "MOST_HUES" 24))
  have e : f = He.fAd K ("law", none) := by
    rw [g_law] at hfa
    exact (Value.ref.inj (Option.some.inj hfa)).symm
  subst e
  refine ⟨fd_law, fun s v => F_law.bindsA (ps := ["script"]) (fun _ _ _ _ _ _ us hl => match us, hl with | [_], _ => rfl) s [v] rfl, fun base hb hn => ?_⟩
  have o_law_whole := ok_law_whole (Pr := P) (w := w) (base := base) Z F_law_whole g_law_whole 
  have o_law_cell := ok_law_cell (Pr := P) (w := w) (base := base) Z F_law_cell g_law_cell 
  have o_law_digits := ok_law_digits (Pr := P) (w := w) (base := base) Z F_law_digits g_law_digits 
  have o_law_number := ok_law_number (Pr := P) (w := w) (base := base) Z F_law_number g_law_number 
  have o_law_built := ok_law_built (Pr := P) (w := w) (base := base) Z F_law_built g_law_built o_law_cell o_law_digits
  have o_law_mixed := ok_law_mixed (Pr := P) (w := w) (base := base) Z F_law_mixed g_law_mixed o_law_number
  have o_law_even_side := ok_law_even_side (Pr := P) (w := w) (base := base) Z F_law_even_side g_law_even_side 
  have o_law_even := ok_law_even (Pr := P) (w := w) (base := base) Z F_law_even g_law_even o_law_even_side
  have o_law_even_sideT := ok_law_even_sideT (Pr := P) (w := w) (base := base) Z F_law_even_side g_law_even_side 
  have o_law_evenT := ok_law_evenT (Pr := P) (w := w) (base := base) Z F_law_even g_law_even o_law_even_sideT
  have o_hues_even := ok_hues_even (Pr := P) (w := w) (base := base) Z F_hues_even g_hues_even 
  have o_hues_evenT := ok_hues_evenT (Pr := P) (w := w) (base := base) Z F_hues_even g_hues_even 
  have o_law_asked := ok_law_asked (Pr := P) (w := w) (base := base) Z F_law_asked g_law_asked o_hues_even
  have o_law_askedT := ok_law_askedT (Pr := P) (w := w) (base := base) Z F_law_asked g_law_asked o_hues_even
  have o_law_partner := ok_law_partner (Pr := P) (w := w) (base := base) Z F_law_partner g_law_partner 
  have o_law_partnerT := ok_law_partnerT (Pr := P) (w := w) (base := base) Z F_law_partner g_law_partner 
  have o_law_changed := ok_law_changed (Pr := P) (w := w) (base := base) Z F_law_changed g_law_changed o_law_partner
  have o_law_changedT := ok_law_changedT (Pr := P) (w := w) (base := base) Z F_law_changed g_law_changed o_law_partnerT
  have o_empty_rows := ok_empty_rows (Pr := P) (w := w) (base := base) Z F_empty_rows g_empty_rows 
  have o_set_edge := ok_set_edge (Pr := P) (w := w) (base := base) Z F_set_edge g_set_edge 
  have o_chain_of := ok_chain_of (Pr := P) (w := w) (base := base) Z F_chain_of g_chain_of 
  have o_turn_chain := ok_turn_chain (Pr := P) (w := w) (base := base) Z F_turn_chain g_turn_chain o_set_edge
  have o_proper_hues := ok_proper_hues (Pr := P) (w := w) (base := base) Z F_proper_hues g_proper_hues o_empty_rows o_turn_chain o_chain_of o_set_edge
  have o_grouped := ok_grouped (Pr := P) (w := w) (base := base) Z F_grouped g_grouped 
  have o_frozen := ok_frozen (Pr := P) (w := w) (base := base) Z F_frozen g_frozen 
  have o_even_hues := ok_even_hues (Pr := P) (w := w) (base := base) Z F_even_hues g_even_hues o_frozen o_grouped o_proper_hues c_MOST_HUES
  have o_law_returned := ok_law_returned (Pr := P) (w := w) (base := base) Z F_law_returned g_law_returned o_law_cell o_law_digits o_law_number o_even_hues o_law_whole o_law_evenT o_law_askedT o_law_changedT o_law_even o_law_asked
  exact ok_law Z F_law o_law_cell o_law_digits o_law_built o_law_mixed o_law_asked o_law_changed o_law_even o_hues_evenT o_law_returned
end My

namespace My
open PySem PySem.Spec PyProof.Rows L2 SL SM
/-! MH1: rows of hues by node; chains; plain lists. -/
theorem forO2 {α S : Type} {f : S → α → Out S} {x y : α} {s s1 s2 : S} (h1 : f s x = pure s1) (h2 : f s1 y = pure s2) : forO f [x, y] s = pure s2 := by
  unfold forO
  rw [h1, pbind]
  unfold forO
  rw [h2, pbind]
  rfl
theorem while_ex {S β : Type} {c : S → Out Bool} {f : S → Out S} {g : S → Out β} {n : Nat} {s0 : S} {Q : S → Prop} {P : Out β → Prop} (I : Nat → S → Prop) (m : Nat) (hm : m < n) (h0 : I m s0)
    (h : ∀ m s, I m s → (c s = pure false ∧ Q s) ∨ (∃ m', m' < m ∧ c s = pure true ∧ ∃ s', f s = pure s' ∧ I m' s')) (hf : ∀ s, Q s → P (g s)) : P (whileO c f n s0 >>= g) := by
  obtain ⟨s', e, q⟩ := while_inv I h n m s0 hm h0
  rw [e, pbind]
  exact hf s' q
theorem for_ex {α S β : Type} {f : S → α → Out S} {g : S → Out β} {s0 : S} {xs : List α} {P : Out β → Prop} (I : Nat → S → Prop) (h0 : I 0 s0) (h : ∀ i s x, xs[i]? = some x → I i s → ∃ s', f s x = pure s' ∧ I (i + 1) s') (hf : ∀ s, I xs.length s → P (g s)) : P (forO f xs s0 >>= g) := by
  obtain ⟨s', e, q⟩ := forO_inv0 I xs s0 h0 h
  rw [e, pbind]
  exact hf s' q
/-! ### plain lists -/
theorem nodup_len {α : Type} [DecidableEq α] : ∀ (l m : List α), l.Nodup → (∀ x ∈ l, x ∈ m) → l.length ≤ m.length
  | [], _, _, _ => Nat.zero_le _
  | x :: l, m, hn, h => by
    obtain ⟨h1, h2⟩ := List.nodup_cons.mp hn
    have hx := h x (by simp)
    have := nodup_len l (m.erase x) h2 fun y hy => (List.mem_erase_of_ne (fun (z : y = x) => h1 (z ▸ hy))).mpr (h y (by simp [hy]))
    rw [List.length_erase_of_mem hx] at this
    have := List.length_pos_of_mem hx
    simp only [List.length_cons]
    omega
theorem nodup_get : ∀ {l : List Nat}, (∀ (i j a : Nat), l[i]? = some a → l[j]? = some a → i = j) → l.Nodup
  | [], _ => List.nodup_nil
  | x :: l, h => List.nodup_cons.mpr ⟨fun hx => by
      obtain ⟨i, hi⟩ := List.mem_iff_getElem?.mp hx
      have := h 0 (i + 1) x rfl (by simpa using hi)
      omega, nodup_get fun i j a hi hj => by
      have := h (i + 1) (j + 1) a (by simpa using hi) (by simpa using hj)
      omega⟩
theorem inj_len {l : List Nat} {k : Nat} (hi : ∀ (i j a : Nat), l[i]? = some a → l[j]? = some a → i = j) (hk : ∀ a ∈ l, a < k) : l.length ≤ k := by
  have hn : l.Nodup := nodup_get hi
  have := nodup_len l (List.range k) hn fun x hx => List.mem_range.mpr (hk x hx)
  simpa using this
/-- among c things below c, all different, each number stands -/
theorem full_mem {l : List Nat} {c : Nat} (hn : l.Nodup) (hl : l.length = c) (hc : ∀ a ∈ l, a < c) {h : Nat} (hh : h < c) : h ∈ l := by
  by_cases hm : h ∈ l
  · exact hm
  · have := nodup_len l ((List.range c).erase h) hn fun x hx => (List.mem_erase_of_ne (fun (z : x = h) => hm (z ▸ hx))).mpr (List.mem_range.mpr (hc x hx))
    rw [List.length_erase_of_mem (List.mem_range.mpr hh), List.length_range] at this
    omega
theorem count_le_one {l : List Nat} (hn : l.Nodup) (h : Nat) : l.count h ≤ 1 := List.nodup_iff_count.mp hn h
/-- in blocks of c things, all different in each block: how often each number stands -/
theorem block_count {c : Nat} (hc : 0 < c) (h : Nat) (hh : h < c) : ∀ (n : Nat) (l : List Nat), l.length ≤ n → (∀ a ∈ l, a < c) → (∀ (i j a : Nat), l[i]? = some a → l[j]? = some a → i / c = j / c → i = j) → l.length / c ≤ l.count h ∧ l.count h ≤ (l.length + c - 1) / c
  | 0, l, hn, _, _ => by
    have : l = [] := List.length_eq_zero_iff.mp (by omega)
    subst this
    simp
  | n + 1, l, hn, hb, hd => by
    by_cases hl : l.length < c
    · have nd : l.Nodup := nodup_get fun i j a hi hj => by
        have h1 := (List.getElem?_eq_some_iff.mp hi).1
        have h2 := (List.getElem?_eq_some_iff.mp hj).1
        exact hd i j a hi hj (by rw [Nat.div_eq_of_lt (by omega), Nat.div_eq_of_lt (by omega)])
      refine ⟨by rw [Nat.div_eq_of_lt hl]; omega, ?_⟩
      by_cases h0 : l.length = 0
      · have : l = [] := List.length_eq_zero_iff.mp h0
        subst this
        simp
      · have : (l.length + c - 1) / c = 1 := by
          rw [Nat.div_eq_iff hc]
          omega
        rw [this]
        exact count_le_one nd h
    · have e : l = l.take c ++ l.drop c := (List.take_append_drop c l).symm
      have ht : (l.take c).length = c := by rw [List.length_take]; omega
      have nd : (l.take c).Nodup := nodup_get fun i j a hi hj => by
        have h1 := (List.getElem?_eq_some_iff.mp hi).1
        have h2 := (List.getElem?_eq_some_iff.mp hj).1
        rw [ht] at h1 h2
        rw [List.getElem?_take_of_lt h1] at hi
        rw [List.getElem?_take_of_lt h2] at hj
        exact hd i j a hi hj (by rw [Nat.div_eq_of_lt h1, Nat.div_eq_of_lt h2])
      have h1 : (l.take c).count h = 1 := by
        have a1 := count_le_one nd h
        have a2 := List.count_pos_iff.mpr (full_mem nd ht (fun a ha => hb a (List.mem_of_mem_take ha)) hh)
        omega
      obtain ⟨g1, g2⟩ := block_count hc h hh n (l.drop c) (by rw [List.length_drop]; omega) (fun a ha => hb a (List.mem_of_mem_drop ha)) (fun i j a hi hj hij => by
        rw [List.getElem?_drop] at hi hj
        have := hd _ _ a hi hj (by rw [Nat.add_div_left _ hc, Nat.add_div_left _ hc, hij])
        omega)
      rw [List.length_drop] at g1 g2
      rw [e, List.count_append, h1]
      have hl2 : (l.take c ++ l.drop c).length = l.length := by rw [← e]
      rw [hl2]
      have e1 : l.length / c = (l.length - c) / c + 1 := by
        rw [← Nat.add_div_right _ hc]
        congr 1
        omega
      have e2 : (l.length + c - 1) / c = (l.length - c + c - 1) / c + 1 := by
        rw [← Nat.add_div_right _ hc]
        congr 1
        omega
      omega

/-! ### tables -/
theorem aget_aput {κ α : Type} [DecidableEq κ] : ∀ (a : List (κ × α)) (k j : κ) (x : α), aget (aput a k x) j = if j = k then some x else aget a j
  | [], k, j, x => by
    unfold aput aget
    by_cases h : k = j
    · rw [if_pos h, if_pos h.symm]
    · rw [if_neg h, if_neg (Ne.symm h)]
      rfl
  | (i, y) :: r, k, j, x => by
    unfold aput
    by_cases c : i = k
    · rw [if_pos c]
      unfold aget
      by_cases h : i = j
      · rw [if_pos h, if_pos (h ▸ c)]
      · rw [if_neg h, if_neg (fun z => h (c.trans z.symm)), if_neg h]
    · rw [if_neg c]
      unfold aget
      by_cases h : i = j
      · rw [if_pos h, if_neg (fun z => c (h.trans z)), if_pos h]
      · rw [if_neg h, if_neg h]
        exact aget_aput r k j x
theorem afind_aget {κ α : Type} [DecidableEq κ] {a : List (κ × α)} {k : κ} {x : α} (h : aget a k = some x) : ∃ j, afind a k = some j ∧ a[j]? = some (k, x) ∧ ∀ y, a.set j (k, y) = aput a k y := by
  obtain ⟨j, h1, h2⟩ := aget_find h
  exact ⟨j, h1, h2, fun y => (aput_some y h1).symm⟩
theorem agetO_ok {κ α : Type} [DecidableEq κ] {a : List (κ × α)} {k : κ} {x : α} (h : aget a k = some x) : agetO a k = pure x := by
  unfold agetO
  rw [h]
theorem aputO_ok {κ α : Type} [DecidableEq κ] {a : List (κ × α)} {k : κ} {x : α} (h : a.length < 16777216) : aputO a k x = pure (aput a k x) := if_pos h
theorem aput_len {κ α : Type} [DecidableEq κ] : ∀ (a : List (κ × α)) (k : κ) (x : α), (aput a k x).length ≤ a.length + 1
  | [], _, _ => Nat.le_refl _
  | (i, y) :: r, k, x => by
    unfold aput
    by_cases c : i = k
    · rw [if_pos c]; simp
    · rw [if_neg c]
      have := aput_len r k x
      simp only [List.length_cons]
      omega
theorem subO_nat {α β : Type} {xs : List β} {put : List β → α} {k : Nat} {b : β} (h : xs[k]? = some b) : subO (xs, put) (k : Int) = pure (b, fun x => put (xs.set k x)) := by
  have hk := (List.getElem?_eq_some_iff.mp h).1
  unfold subO
  simp only [ixN_nat hk, h]
theorem subD_ok {κ α β : Type} [DecidableEq κ] {a : List (κ × β)} {put : List (κ × β) → α} {k : κ} {b : β} (h : aget a k = some b) : ∃ g, subD (a, put) k = pure (b, g) ∧ ∀ x, g x = put (aput a k x) := by
  obtain ⟨j, h1, h2, h3⟩ := afind_aget h
  refine ⟨fun x => put (a.set j (k, x)), ?_, fun x => congrArg put (h3 x)⟩
  unfold subD
  simp only [h1, h2]

/-! ### rows by node -/
abbrev Nd := Int × Int
abbrev Rows := List (List (Nd × List Int))
/-- what stands at side s, node v, hue h -/
def RA (rows : Rows) (s : Nat) (v : Nd) (h : Nat) : Int := match aget (rows[s]?.getD []) v with
  | some r => r[h]?.getD (-1)
  | none => -1
structure WF (c : Nat) (D : Nat → Nd → Prop) (rows : Rows) : Prop where
  len : rows.length = 2
  row : ∀ s v, s < 2 → D s v → ∃ r, aget (rows[s]?.getD []) v = some r ∧ r.length = c
theorem get_of {rows : Rows} (hl : rows.length = 2) {s : Nat} (hs : s < 2) : rows[s]? = some (rows[s]?.getD []) := by
  rw [List.getElem?_eq_getElem (by omega)]
  rfl
/-- one place is written -/
theorem wf_put {c : Nat} {D : Nat → Nd → Prop} {rows : Rows} (w : WF c D rows) {s : Nat} (hs : s < 2) {v : Nd} (hv : D s v) {h : Nat} (hh : h < c) (x : Int) :
    ∃ rows', (subO (rows, fun b => b) (s : Int) >>= fun t3 => subD t3 v >>= fun r => setO r.1 (h : Int) x >>= fun l => pure (r.2 l)) = pure rows' ∧ WF c D rows' ∧ ∀ s' v' h', RA rows' s' v' h' = if s' = s ∧ v' = v ∧ h' = h then x else RA rows s' v' h' := by
  obtain ⟨r, hr, hrl⟩ := w.row s v hs hv
  obtain ⟨g, hg, hg2⟩ := subD_ok (put := fun y => rows.set s y) hr
  have hsl : s < rows.length := by rw [w.len]; exact hs
  have eg : ∀ s', (rows.set s (aput (rows[s]?.getD []) v (r.set h x)))[s']?.getD [] = if s' = s then aput (rows[s]?.getD []) v (r.set h x) else rows[s']?.getD [] := fun s' => by
    by_cases cs : s = s'
    · subst cs
      rw [List.getElem?_set_self hsl, if_pos rfl]; rfl
    · rw [List.getElem?_set_ne cs, if_neg (Ne.symm cs)]
  refine ⟨rows.set s (aput (rows[s]?.getD []) v (r.set h x)), ?_, ⟨by rw [List.length_set]; exact w.len, fun s' v' hs' hv' => ?_⟩, fun s' v' h' => ?_⟩
  · rw [subO_nat (get_of w.len hs), pbind]
    show (subD ((rows[s]?.getD []), fun y => rows.set s y) v >>= _) = _
    rw [hg, pbind]
    show (setO r (h : Int) x >>= fun l => pure (g l)) = _
    rw [setO_nat (by omega), pbind, hg2]
  · rw [eg]
    by_cases cs : s' = s
    · subst cs
      rw [if_pos rfl, aget_aput]
      by_cases cv : v' = v
      · rw [if_pos cv]
        exact ⟨_, rfl, by rw [List.length_set]; exact hrl⟩
      · rw [if_neg cv]
        exact w.row s' v' hs' hv'
    · rw [if_neg cs]
      exact w.row s' v' hs' hv'
  · unfold RA
    rw [eg]
    by_cases cs : s' = s
    · subst cs
      rw [if_pos rfl, aget_aput]
      by_cases cv : v' = v
      · subst cv
        rw [if_pos rfl, hr]
        by_cases ch : h' = h
        · subst ch
          rw [if_pos ⟨rfl, rfl, rfl⟩]
          show (r.set h' x)[h']?.getD (-1) = x
          rw [List.getElem?_set_self (by omega)]
          rfl
        · rw [if_neg (fun z => ch z.2.2)]
          show (r.set h x)[h']?.getD (-1) = r[h']?.getD (-1)
          rw [List.getElem?_set_ne (Ne.symm ch)]
      · rw [if_neg cv, if_neg (fun z => cv z.2.1)]
    · rw [if_neg cs, if_neg (fun z => cs z.1)]
/-- a place is read -/
theorem wf_get {c : Nat} {D : Nat → Nd → Prop} {rows : Rows} (w : WF c D rows) {s : Nat} (hs : s < 2) {v : Nd} (hv : D s v) : ∃ r, (idx rows (s : Int) >>= fun t => agetO t v) = pure r ∧ r.length = c ∧ ∀ h, h < c → r[h]? = some (RA rows s v h) := by
  obtain ⟨r, hr, hrl⟩ := w.row s v hs hv
  refine ⟨r, ?_, hrl, fun h hh => ?_⟩
  · rw [idx_nat (get_of w.len hs), pbind, agetO_ok hr]
  · unfold RA
    rw [hr]
    show r[h]? = some (r[h]?.getD (-1))
    rw [List.getElem?_eq_getElem (by omega)]
    rfl

/-! ### proper hues, chains -/
/-- the end of an edge at a side -/
abbrev en (E : Nat → Nd × Nd) (e s : Nat) : Nd := if s = 0 then (E e).1 else (E e).2
structure Pr (c : Nat) (D : Nat → Nd → Prop) (E : Nat → Nd × Nd) (k : Nat) (col : Nat → Nat) (R : Nat → Nd → Nat → Int) : Prop where
  lt : ∀ e, e < k → col e < c
  at_ : ∀ e s, e < k → s < 2 → R s (en E e s) (col e) = (e : Int)
  of : ∀ s v h, s < 2 → D s v → h < c → R s v h = -1 ∨ ∃ e, e < k ∧ R s v h = (e : Int) ∧ en E e s = v ∧ col e = h
/-- the side, the hue at a chain's place -/
def sd (i : Nat) : Nat := (i + 1) % 2
theorem sd_lt (i : Nat) : sd i < 2 := Nat.mod_lt _ (by decide)
def hu (one other i : Nat) : Nat := if i % 2 = 0 then one else other
def nodeAt (E : Nat → Nd × Nd) (b : Nd) (C : List Nat) : Nat → Nd
  | 0 => b
  | i + 1 => en E (C[i]?.getD 0) (sd (i + 1))
/-- C goes from b, in turns by the hues one and other -/
def Ch (E : Nat → Nd × Nd) (R : Nat → Nd → Nat → Int) (b : Nd) (one other : Nat) (C : List Nat) : Prop := ∀ (i e : Nat), C[i]? = some e → R (sd i) (nodeAt E b C i) (hu one other i) = (e : Int)
section
variable {c : Nat} {D : Nat → Nd → Prop} {E : Nat → Nd × Nd} {k : Nat} {col : Nat → Nat} {R : Nat → Nd → Nat → Int} {b : Nd} {one other : Nat} {C : List Nat}
theorem node_snoc {i e : Nat} (hi : i ≤ C.length) : nodeAt E b (C ++ [e]) i = nodeAt E b C i := by
  cases i with
  | zero => rfl
  | succ i =>
    show en E ((C ++ [e])[i]?.getD 0) (sd (i + 1)) = en E (C[i]?.getD 0) (sd (i + 1))
    rw [List.getElem?_append_left (by omega)]
theorem ch_snoc (h : Ch E R b one other C) {e : Nat} (he : R (sd C.length) (nodeAt E b C C.length) (hu one other C.length) = (e : Int)) : Ch E R b one other (C ++ [e]) := fun i f hf => by
  by_cases c : i < C.length
  · rw [List.getElem?_append_left c] at hf
    rw [node_snoc (by omega)]
    exact h i f hf
  · have hl := (List.getElem?_eq_some_iff.mp hf).1
    rw [List.length_append, List.length_singleton] at hl
    have : i = C.length := by omega
    subst this
    rw [List.getElem?_append_right (by omega)] at hf
    simp at hf
    subst hf
    rw [node_snoc (Nat.le_refl _)]
    exact he
theorem hu_lt (h1 : one < c) (h2 : other < c) (i : Nat) : hu one other i < c := by unfold hu; split <;> assumption
/-- the nodes of a chain are nodes -/
theorem node_D (hD : ∀ e s, e < k → s < 2 → D s (en E e s)) (hb : D 1 b) (hk : ∀ e ∈ C, e < k) : ∀ i, i ≤ C.length → D (sd i) (nodeAt E b C i)
  | 0, _ => hb
  | i + 1, h => by
    show D (sd (i + 1)) (en E (C[i]?.getD 0) (sd (i + 1)))
    rw [List.getElem?_eq_getElem (by omega)]
    exact hD _ _ (hk _ (List.getElem_mem _)) (sd_lt _)
/-- what a place of a chain is -/
theorem ch_at (P : Pr c D E k col R) (hD : ∀ e s, e < k → s < 2 → D s (en E e s)) (hb : D 1 b) (h1 : one < c) (h2 : other < c) (hC : Ch E R b one other C) (hk : ∀ e ∈ C, e < k) {i e : Nat} (he : C[i]? = some e) : e < k ∧ en E e (sd i) = nodeAt E b C i ∧ col e = hu one other i := by
  have hi := (List.getElem?_eq_some_iff.mp he).1
  rcases P.of (sd i) (nodeAt E b C i) (hu one other i) (sd_lt i) (node_D hD hb hk i (by omega)) (hu_lt h1 h2 i) with z | ⟨f, f1, f2, f3, f4⟩
  · rw [hC i e he] at z
    omega
  · rw [hC i e he] at f2
    have : e = f := by omega
    subst this
    exact ⟨f1, f3, f4⟩
theorem ch_lt (P : Pr c D E k col R) (hD : ∀ e s, e < k → s < 2 → D s (en E e s)) (hb : D 1 b) (h1 : one < c) (h2 : other < c) : ∀ {C : List Nat}, Ch E R b one other C → ∀ e ∈ C, e < k := by
  intro C hC e he
  obtain ⟨i, hi⟩ := List.mem_iff_getElem?.mp he
  induction i using Nat.strongRecOn generalizing e with
  | _ i ih =>
    have hl := (List.getElem?_eq_some_iff.mp hi).1
    have hd : D (sd i) (nodeAt E b C i) := by
      cases i with
      | zero => exact hb
      | succ i =>
        show D (sd (i + 1)) (en E (C[i]?.getD 0) (sd (i + 1)))
        rw [List.getElem?_eq_getElem (by omega)]
        exact hD _ _ (ih i (by omega) _ (List.getElem_mem _) (List.getElem?_eq_getElem (by omega))) (sd_lt _)
    rcases P.of (sd i) (nodeAt E b C i) (hu one other i) (sd_lt i) hd (hu_lt h1 h2 i) with z | ⟨f, f1, f2, f3, f4⟩
    · rw [hC i e hi] at z
      omega
    · rw [hC i e hi] at f2
      have : e = f := by omega
      rw [this]
      exact f1
/-- a chain never comes back -/
theorem ch_inj (P : Pr c D E k col R) (hD : ∀ e s, e < k → s < 2 → D s (en E e s)) (hb : D 1 b) (h1 : one < c) (h2 : other < c) (hne : one ≠ other) (hfree : R 1 b other = -1) (hC : Ch E R b one other C) : ∀ (i j e : Nat), C[i]? = some e → C[j]? = some e → i = j := by
  have hk := ch_lt P hD hb h1 h2 hC
  have main : ∀ (i j e : Nat), i < j → C[i]? = some e → C[j]? = some e → False := by
    intro i
    induction i with
    | zero =>
      intro j e hij hi hj
      obtain ⟨_, a2, a3⟩ := ch_at P hD hb h1 h2 hC hk hi
      obtain ⟨_, b2, b3⟩ := ch_at P hD hb h1 h2 hC hk hj
      have par : j % 2 = 0 := by
        rw [a3] at b3
        unfold hu at b3
        by_cases z : j % 2 = 0
        · exact z
        · rw [if_pos rfl, if_neg z] at b3
          exact absurd b3 hne
      have es : sd j = 1 := by unfold sd; omega
      cases j with
      | zero => omega
      | succ j =>
        have hl := (List.getElem?_eq_some_iff.mp hj).1
        have hj' : C[j]? = some C[j] := List.getElem?_eq_getElem (by omega)
        obtain ⟨c1, c2, c3⟩ := ch_at P hD hb h1 h2 hC hk hj'
        have e3 : col C[j] = other := by
          rw [c3]
          unfold hu
          rw [if_neg (by omega)]
        have e4 : en E C[j] 1 = b := by
          have n1 : nodeAt E b C (j + 1) = en E C[j] (sd (j + 1)) := by
            show en E (C[j]?.getD 0) (sd (j + 1)) = _
            rw [hj']
            rfl
          rw [es] at n1
          rw [← n1, ← b2, es]
          have a2' : en E e (sd 0) = b := a2
          exact a2'
        have := P.at_ C[j] 1 c1 (by decide)
        rw [e4, e3, hfree] at this
        omega
    | succ i ih =>
      intro j e hij hi hj
      obtain ⟨_, a2, a3⟩ := ch_at P hD hb h1 h2 hC hk hi
      obtain ⟨_, b2, b3⟩ := ch_at P hD hb h1 h2 hC hk hj
      have par : (i + 1) % 2 = j % 2 := by
        rw [a3] at b3
        unfold hu at b3
        by_cases z1 : (i + 1) % 2 = 0 <;> by_cases z2 : j % 2 = 0
        · omega
        · rw [if_pos z1, if_neg z2] at b3; exact absurd b3 hne
        · rw [if_neg z1, if_pos z2] at b3; exact absurd b3.symm hne
        · omega
      have es : sd (i + 1) = sd j := by unfold sd; omega
      cases j with
      | zero => omega
      | succ j =>
        have hl := (List.getElem?_eq_some_iff.mp hj).1
        have hi' : C[i]? = some C[i] := List.getElem?_eq_getElem (by omega)
        have hj' : C[j]? = some C[j] := List.getElem?_eq_getElem (by omega)
        obtain ⟨c1, c2, c3⟩ := ch_at P hD hb h1 h2 hC hk hi'
        obtain ⟨d1, d2, d3⟩ := ch_at P hD hb h1 h2 hC hk hj'
        have n1 : nodeAt E b C (i + 1) = en E C[i] (sd (i + 1)) := by
          show en E (C[i]?.getD 0) (sd (i + 1)) = _
          rw [hi']
          rfl
        have n2 : nodeAt E b C (j + 1) = en E C[j] (sd (j + 1)) := by
          show en E (C[j]?.getD 0) (sd (j + 1)) = _
          rw [hj']
          rfl
        have n3 : en E C[i] (sd (i + 1)) = en E C[j] (sd (i + 1)) := by
          rw [← n1, ← a2, es, b2, n2]
        have e1 : hu one other i = hu one other j := by
          unfold hu
          have : i % 2 = j % 2 := by omega
          rw [this]
        have p1 := P.at_ C[i] (sd (i + 1)) c1 (sd_lt _)
        have p2 := P.at_ C[j] (sd (i + 1)) d1 (sd_lt _)
        rw [n3, c3, e1, ← d3, p2] at p1
        have ee : C[j] = C[i] := by omega
        exact ih j C[i] (by omega) hi' (by rw [hj', ee])
  intro i j e hi hj
  rcases Nat.lt_trichotomy i j with h | h | h
  · exact (main i j e h hi hj).elim
  · exact h
  · exact (main j i e h hj hi).elim
end

/-! MH2: a chain is turned; edges get their hues. -/
section
variable {c : Nat} {D : Nat → Nd → Prop} {E : Nat → Nd × Nd} {k : Nat} {col : Nat → Nat} {R R1 R2 : Nat → Nd → Nat → Int} {a b : Nd} {one other : Nat} {C : List Nat}
def turned (C : List Nat) (both : Nat) (col : Nat → Nat) (e : Nat) : Nat := if e ∈ C then both - col e else col e
/-- what is known of a chain that has come to its end -/
structure Cl (c : Nat) (D : Nat → Nd → Prop) (E : Nat → Nd × Nd) (k : Nat) (col : Nat → Nat) (R : Nat → Nd → Nat → Int) (a b : Nd) (one other : Nat) (C : List Nat) : Prop where
  P : Pr c D E k col R
  hD : ∀ e s, e < k → s < 2 → D s (en E e s)
  ha : D 0 a
  hb : D 1 b
  h1 : one < c
  h2 : other < c
  ne : one ≠ other
  fa : R 0 a one = -1
  fb : R 1 b other = -1
  ch : Ch E R b one other C
  end_ : R (sd C.length) (nodeAt E b C C.length) (hu one other C.length) = -1
theorem Cl.lt (h : Cl c D E k col R a b one other C) : ∀ e ∈ C, e < k := ch_lt h.P h.hD h.hb h.h1 h.h2 h.ch
theorem Cl.inj (h : Cl c D E k col R a b one other C) : ∀ (i j e : Nat), C[i]? = some e → C[j]? = some e → i = j := ch_inj h.P h.hD h.hb h.h1 h.h2 h.ne h.fb h.ch
theorem Cl.at_ (h : Cl c D E k col R a b one other C) {i e : Nat} (he : C[i]? = some e) : e < k ∧ en E e (sd i) = nodeAt E b C i ∧ col e = hu one other i := ch_at h.P h.hD h.hb h.h1 h.h2 h.ch h.lt he
theorem hu_or (i : Nat) : hu one other i = one ∨ hu one other i = other := by unfold hu; split; exact .inl rfl; exact .inr rfl
theorem hu_succ (i : Nat) : hu one other (i + 1) = one + other - hu one other i := by
  unfold hu
  by_cases c : i % 2 = 0
  · rw [if_neg (by omega), if_pos c]; omega
  · rw [if_pos (by omega), if_neg c]; omega
theorem Cl.tcol (h : Cl c D E k col R a b one other C) {i e : Nat} (he : C[i]? = some e) : turned C (one + other) col e = hu one other (i + 1) := by
  unfold turned
  rw [if_pos (List.mem_of_getElem? he), (h.at_ he).2.2, hu_succ]
theorem node_succ {i e : Nat} (he : C[i]? = some e) : nodeAt E b C (i + 1) = en E e (sd (i + 1)) := by
  show en E (C[i]?.getD 0) (sd (i + 1)) = _
  rw [he]; rfl
theorem Pr.uniq (P : Pr c D E k col R) {e f s : Nat} (he : e < k) (hf : f < k) (hs : s < 2) (h1 : en E e s = en E f s) (h2 : col e = col f) : e = f := by
  have a1 := P.at_ e s he hs
  have a2 := P.at_ f s hf hs
  rw [h1, h2, a2] at a1
  omega
/-- the neighbours that come to the new hue lie on the chain -/
theorem Cl.near (h : Cl c D E k col R a b one other C) {e f s : Nat} (hf : f ∈ C) (he : e < k) (hs : s < 2) (h1 : en E e s = en E f s) (h2 : col e = turned C (one + other) col f) : e ∈ C := by
  obtain ⟨i, hi⟩ := List.mem_iff_getElem?.mp hf
  have hil := (List.getElem?_eq_some_iff.mp hi).1
  rw [h.tcol hi] at h2
  have hfl := h.lt f hf
  have hss : s = sd (i + 1) ∨ s = sd i := by unfold sd; omega
  rcases hss with rfl | rfl
  · -- the way out
    have hR : R (sd (i + 1)) (nodeAt E b C (i + 1)) (hu one other (i + 1)) = (e : Int) := by
      rw [node_succ hi, ← h1, ← h2]
      exact h.P.at_ e _ he hs
    by_cases hl : i + 1 < C.length
    · have hn : C[i + 1]? = some C[i + 1] := List.getElem?_eq_getElem hl
      have := h.ch (i + 1) _ hn
      rw [hR] at this
      have e1 : e = C[i + 1] := by omega
      rw [e1]
      exact List.getElem_mem hl
    · have e1 : i + 1 = C.length := by omega
      have := h.end_
      rw [← e1, hR] at this
      omega
  · -- the way in
    cases i with
    | zero =>
      have a2 := (h.at_ hi).2.1
      have : R 1 b other = (e : Int) := by
        have q := h.P.at_ e (sd 0) he hs
        rw [h1, a2, h2] at q
        exact q
      rw [h.fb] at this
      omega
    | succ i =>
      have hi' : C[i]? = some C[i] := List.getElem?_eq_getElem (by omega)
      obtain ⟨b1, b2, b3⟩ := h.at_ hi'
      have a2 := (h.at_ hi).2.1
      have e2 : e = C[i] := by
        refine h.P.uniq he b1 hs ?_ ?_
        · rw [h1, a2, node_succ hi']
        · rw [h2, b3]
          unfold hu
          have : (i + 1 + 1) % 2 = i % 2 := by omega
          rw [this]
      rw [e2]
      exact List.getElem_mem _
theorem turned_lt (h : Cl c D E k col R a b one other C) : ∀ e, e < k → turned C (one + other) col e < c := fun e he => by
  by_cases hm : e ∈ C
  · obtain ⟨i, hi⟩ := List.mem_iff_getElem?.mp hm
    rw [h.tcol hi]
    exact hu_lt h.h1 h.h2 _
  · unfold turned
    rw [if_neg hm]
    exact h.P.lt e he
/-- the chain is turned -/
theorem Cl.turn (h : Cl c D E k col R a b one other C) (hA : ∀ e ∈ C, ∀ s, s < 2 → R2 s (en E e s) (turned C (one + other) col e) = (e : Int))
    (hB : ∀ s v g, s < 2 → (∀ e ∈ C, ¬ (en E e s = v ∧ turned C (one + other) col e = g)) → R2 s v g = R1 s v g) (hC : ∀ s v g, s < 2 → R1 s v g = if ∃ e ∈ C, en E e s = v ∧ col e = g then -1 else R s v g) :
    Pr c D E k (turned C (one + other) col) R2 ∧ R2 0 a one = -1 ∧ R2 1 b one = -1 := by
  have P' : Pr c D E k (turned C (one + other) col) R2 := by
    refine ⟨turned_lt h, fun e s he hs => ?_, fun s v g hs hv hg => ?_⟩
    · by_cases hm : e ∈ C
      · exact hA e hm s hs
      · have et : turned C (one + other) col e = col e := if_neg hm
        rw [et, hB s _ _ hs fun f hf ⟨z1, z2⟩ => hm (h.near hf he hs z1.symm z2.symm), hC s _ _ hs, if_neg]
        · exact h.P.at_ e s he hs
        · rintro ⟨f, hf, z1, z2⟩
          exact hm (h.P.uniq he (h.lt f hf) hs z1.symm z2.symm ▸ hf)
    · by_cases hex : ∃ e ∈ C, en E e s = v ∧ turned C (one + other) col e = g
      · obtain ⟨e, he, z1, z2⟩ := hex
        refine .inr ⟨e, h.lt e he, ?_, z1, z2⟩
        rw [← z1, ← z2]
        exact hA e he s hs
      · rw [hB s v g hs fun e he z => hex ⟨e, he, z⟩, hC s v g hs]
        by_cases hq : ∃ e ∈ C, en E e s = v ∧ col e = g
        · rw [if_pos hq]; exact .inl rfl
        · rw [if_neg hq]
          rcases h.P.of s v g hs hv hg with z | ⟨e, q1, q2, q3, q4⟩
          · exact .inl z
          · refine .inr ⟨e, q1, q2, q3, ?_⟩
            unfold turned
            rw [if_neg fun hm => hq ⟨e, hm, q3, q4⟩]
            exact q4
  refine ⟨P', ?_, ?_⟩
  · rcases P'.of 0 a one (by decide) h.ha h.h1 with z | ⟨e, q1, q2, q3, q4⟩
    · exact z
    · exfalso
      by_cases hm : e ∈ C
      · obtain ⟨i, hi⟩ := List.mem_iff_getElem?.mp hm
        rw [h.tcol hi] at q4
        have par : i % 2 = 1 := by
          unfold hu at q4
          by_cases z : (i + 1) % 2 = 0
          · omega
          · rw [if_neg z] at q4
            exact absurd q4.symm h.ne
        cases i with
        | zero => omega
        | succ i =>
          have hl := (List.getElem?_eq_some_iff.mp hi).1
          have hi' : C[i]? = some C[i] := List.getElem?_eq_getElem (by omega)
          obtain ⟨b1, b2, b3⟩ := h.at_ hi'
          have a2 := (h.at_ hi).2.1
          have es : sd (i + 1) = 0 := by unfold sd; omega
          rw [node_succ hi', es, q3] at a2
          have e3 : col C[i] = one := by rw [b3]; unfold hu; rw [if_pos (by omega)]
          have := h.P.at_ C[i] 0 b1 (by decide)
          rw [← a2, e3, h.fa] at this
          omega
      · unfold turned at q4
        rw [if_neg hm] at q4
        have := h.P.at_ e 0 q1 (by decide)
        rw [q3, q4, h.fa] at this
        omega
  · rcases P'.of 1 b one (by decide) h.hb h.h1 with z | ⟨e, q1, q2, q3, q4⟩
    · exact z
    · exfalso
      by_cases hm : e ∈ C
      · have e1 : col e = other := by
          have hc := h.P.lt e q1
          obtain ⟨i, hi⟩ := List.mem_iff_getElem?.mp hm
          have := (h.at_ hi).2.2
          unfold turned at q4
          rw [if_pos hm] at q4
          rcases hu_or (one := one) (other := other) i with z | z <;> omega
        have := h.P.at_ e 1 q1 (by decide)
        rw [q3, e1, h.fb] at this
        omega
      · unfold turned at q4
        rw [if_neg hm] at q4
        have hR := h.P.at_ e 1 q1 (by decide)
        rw [q3, q4] at hR
        by_cases hl : 0 < C.length
        · have := h.ch 0 _ (List.getElem?_eq_getElem hl)
          have q : R 1 b one = (C[0] : Int) := this
          rw [hR] at q
          exact hm (by
            have : e = C[0] := by omega
            rw [this]
            exact List.getElem_mem _)
        · have e0 : C.length = 0 := by omega
          have := h.end_
          rw [e0] at this
          have q : R 1 b one = -1 := this
          rw [hR] at q
          omega
end

/-! ### the defs -/
theorem upto2 : upto 2 = [((0 : Nat) : Int), ((1 : Nat) : Int)] := rfl
abbrev natsI (C : List Nat) : List Int := C.map fun (e : Nat) => (e : Int)
section
variable {c : Nat} {D : Nat → Nd → Prop} {E : Nat → Nd × Nd} {n k : Nat} {edges : List (Nd × Nd)} {col : Nat → Nat} {rows : Rows} {a b : Nd} {one other : Nat} {C : List Nat}
theorem set_edge_ok (w : WF c D rows) (ha : D 0 a) (hb : D 1 b) {h : Nat} (hh : h < c) (x : Int) : ∃ rows', m_set_edge rows [a, b] (h : Int) x = pure (rows', ()) ∧ WF c D rows' ∧ ∀ s v h', s < 2 → RA rows' s v h' = if v = (if s = 0 then a else b) ∧ h' = h then x else RA rows s v h' := by
  obtain ⟨r1, e1, w1, g1⟩ := wf_put w (s := 0) (by decide) ha hh x
  obtain ⟨r2, e2, w2, g2⟩ := wf_put w1 (s := 1) (by decide) hb hh x
  refine ⟨r2, ?_, w2, fun s v h' hs => ?_⟩
  · rw [m_set_edge_eq]
    unfold b_set_edge
    have i0 : idx [a, b] ((0 : Nat) : Int) = pure a := idx_nat rfl
    have i1 : idx [a, b] ((1 : Nat) : Int) = pure b := idx_nat rfl
    rw [pbind, upto2, forO2 (s1 := r1) (s2 := r2)]
    · rfl
    · simp only [pbind, i0, bind_as]
      exact e1
    · simp only [pbind, i1, bind_as]
      exact e2
  · rw [g2, g1]
    match s, hs with
    | 0, _ => simp
    | 1, _ => simp
theorem chain_ok (w : WF c D rows) (P : Pr c D E k col (RA rows)) (hE : ∀ e, e < k → edges[e]? = some (E e)) (hD : ∀ e s, e < k → s < 2 → D s (en E e s)) (hb : D 1 b) (h1 : one < c) (h2 : other < c) (ne : one ≠ other) (fb : RA rows 1 b other = -1) (hk : k < 16777216) :
    ∃ C, m_chain_of edges rows b (one : Int) (other : Int) = pure (natsI C) ∧ Ch E (RA rows) b one other C ∧ RA rows (sd C.length) (nodeAt E b C C.length) (hu one other C.length) = -1 := by
  rw [m_chain_of_eq]
  unfold b_chain_of
  simp only [pbind]
  refine while_ex (P := fun o => ∃ C, o = pure (natsI C) ∧ Ch E (RA rows) b one other C ∧ RA rows (sd C.length) (nodeAt E b C C.length) (hu one other C.length) = -1)
    (Q := fun s => ∃ C, s = (((sd C.length : Nat) : Int), nodeAt E b C C.length, ((hu one other C.length : Nat) : Int), natsI C) ∧ Ch E (RA rows) b one other C ∧ RA rows (sd C.length) (nodeAt E b C C.length) (hu one other C.length) = -1)
    (fun m s => ∃ C, s = (((sd C.length : Nat) : Int), nodeAt E b C C.length, ((hu one other C.length : Nat) : Int), natsI C) ∧ Ch E (RA rows) b one other C ∧ m = k - C.length) k (by unfold FUEL; omega) ⟨[], rfl, fun i e h => by simp at h, rfl⟩ (fun m s ⟨C, hs, hC, hm⟩ => ?_) (fun s ⟨C, hs, h⟩ => ⟨C, by rw [hs], h⟩)
  subst hs hm
  have hlt := ch_lt P hD hb h1 h2 hC
  have hnd := node_D hD hb hlt C.length (Nat.le_refl _)
  obtain ⟨r, er, _, gr⟩ := wf_get w (sd_lt C.length) hnd
  have gh := gr _ (hu_lt h1 h2 C.length)
  have ei := idx_nat gh
  rcases P.of _ _ _ (sd_lt C.length) hnd (hu_lt h1 h2 C.length) with z | ⟨e, f1, f2, f3, f4⟩
  · left
    refine ⟨?_, C, rfl, hC, z⟩
    simp only [er, pbind, ei, z]
    rfl
  · right
    have hC' := ch_snoc hC (e := e) f2
    have hl : (C ++ [e]).length ≤ k := inj_len (ch_inj P hD hb h1 h2 ne fb hC') (ch_lt P hD hb h1 h2 hC')
    rw [List.length_append, List.length_singleton] at hl
    have ee : idx edges (e : Int) = pure (E e) := idx_nat (hE e f1)
    have es : (1 : Int) - ((sd C.length : Nat) : Int) = ((sd (C.length + 1) : Nat) : Int) := by unfold sd; omega
    have en_ : idx [(E e).1, (E e).2] ((sd (C.length + 1) : Nat) : Int) = pure (en E e (sd (C.length + 1))) := by
      have := sd_lt (C.length + 1)
      match h : sd (C.length + 1), this with
      | 0, _ => exact idx_nat rfl
      | 1, _ => exact idx_nat rfl
    have eh : ((one : Int) + (other : Int)) - ((hu one other C.length : Nat) : Int) = ((hu one other (C.length + 1) : Nat) : Int) := by
      rw [hu_succ]
      rcases hu_or (one := one) (other := other) C.length with z | z <;> rw [z] <;> omega
    have ea : appO (natsI C) (e : Int) = pure (natsI (C ++ [e])) := by
      rw [appO_ok (by simp; omega)]
      simp
    have enode : nodeAt E b (C ++ [e]) (C.length + 1) = en E e (sd (C.length + 1)) := node_succ (by simp)
    refine ⟨k - (C ++ [e]).length, by rw [List.length_append, List.length_singleton]; omega, ?_, (((sd (C.length + 1) : Nat) : Int), en E e (sd (C.length + 1)), ((hu one other (C.length + 1) : Nat) : Int), natsI (C ++ [e])), ?_, C ++ [e], by rw [List.length_append, List.length_singleton, enode], hC', rfl⟩
    · simp only [er, pbind, ei, f2]
      rw [show decide ((0 : Int) ≤ (e : Int)) = true by simp]
    · simp only [er, pbind, ei, f2, ea, es, ee, en_, eh]
end

/-! MH3: a chain's hues are turned; all edges get hues. -/
section
variable {c : Nat} {D : Nat → Nd → Prop} {E : Nat → Nd × Nd} {n k : Nat} {edges : List (Nd × Nd)} {col : Nat → Nat} {rows : Rows} {a b : Nd} {one other : Nat} {C : List Nat}
theorem natsI_get {i : Nat} {x : Int} (h : (natsI C)[i]? = some x) : ∃ e, C[i]? = some e ∧ x = (e : Int) := by
  rw [List.getElem?_map] at h
  cases hc : C[i]? with
  | none => rw [hc] at h; cases h
  | some e => rw [hc] at h; exact ⟨e, rfl, (Option.some.inj h).symm⟩
theorem natsI_len : (natsI C).length = C.length := by simp
theorem take_succ {i e : Nat} (h : C[i]? = some e) : C.take (i + 1) = C.take i ++ [e] := by
  rw [List.take_add_one, h]; rfl
theorem mem_take_succ {i e f : Nat} (h : C[i]? = some e) : f ∈ C.take (i + 1) ↔ f ∈ C.take i ∨ f = e := by
  rw [take_succ h]; simp
theorem ends_ok (hE : ∀ e, e < k → edges[e]? = some (E e)) {e : Nat} (he : e < k) : (idx edges (e : Int) >>= fun t => (pure [t.1, t.2] : Out (List Nd))) = pure [(E e).1, (E e).2] := by
  rw [idx_nat (hE e he)]; rfl
theorem set_edge_e (w : WF c D rows) (hD : ∀ e s, e < k → s < 2 → D s (en E e s)) {e : Nat} (he : e < k) {h : Nat} (hh : h < c) (x : Int) : ∃ rows', m_set_edge rows [(E e).1, (E e).2] (h : Int) x = pure (rows', ()) ∧ WF c D rows' ∧ ∀ s v h', s < 2 → RA rows' s v h' = if v = en E e s ∧ h' = h then x else RA rows s v h' :=
  set_edge_ok w (hD e 0 he (by decide)) (hD e 1 he (by decide)) hh x
theorem turn_ok (h : Cl c D E k col (RA rows) a b one other C) (w : WF c D rows) (hE : ∀ e, e < k → edges[e]? = some (E e)) {hl : List Int} (hk : k ≤ hl.length) (hH : ∀ e, e < hl.length → hl[e]? = some (if e < k then (col e : Int) else -1)) :
    ∃ hl' rows', m_turn_chain edges hl rows (natsI C) ((one : Int) + (other : Int)) = pure (hl', rows', ()) ∧ hl'.length = hl.length ∧ (∀ e, e < hl.length → hl'[e]? = some (if e < k then ((turned C (one + other) col e : Nat) : Int) else -1)) ∧ WF c D rows' ∧
      Pr c D E k (turned C (one + other) col) (RA rows') ∧ RA rows' 0 a one = -1 ∧ RA rows' 1 b one = -1 := by
  have hlt := h.lt
  rw [m_turn_chain_eq]
  unfold b_turn_chain
  simp only [pbind]
  refine for_ex (P := fun o => ∃ (hl' : List Int) (rows' : Rows), o = pure (hl', rows', ()) ∧ hl'.length = hl.length ∧ (∀ e, e < hl.length → hl'[e]? = some (if e < k then ((turned C (one + other) col e : Nat) : Int) else -1)) ∧ WF c D rows' ∧ Pr c D E k (turned C (one + other) col) (RA rows') ∧ RA rows' 0 a one = -1 ∧ RA rows' 1 b one = -1)
    (fun j r => WF c D r ∧ ∀ s v g, s < 2 → RA r s v g = if ∃ e ∈ C.take j, en E e s = v ∧ col e = g then -1 else RA rows s v g) ⟨w, fun s v g _ => by simp⟩ (fun i r x hx ⟨wr, hr⟩ => ?_) (fun r1 ⟨w1, hr1⟩ => ?_)
  · obtain ⟨e, he, rfl⟩ := natsI_get hx
    have hek := hlt e (List.mem_of_getElem? he)
    obtain ⟨r', e1, w', g'⟩ := set_edge_e wr h.hD hek (h.P.lt e hek) (-1)
    refine ⟨r', ?_, w', fun s v g hs => ?_⟩
    · have hi : idx hl (e : Int) = pure ((col e : Nat) : Int) := by
        have := idx_nat (hH e (by omega))
        rw [if_pos hek] at this
        exact this
      rw [ends_ok hE hek, pbind, hi, pbind, e1, pbind]
    · rw [g' s v g hs, hr s v g hs]
      by_cases c1 : v = en E e s ∧ g = col e
      · rw [if_pos c1, if_pos ⟨e, (mem_take_succ he).mpr (.inr rfl), c1.1.symm, c1.2.symm⟩]
      · rw [if_neg c1]
        by_cases c2 : ∃ f ∈ C.take i, en E f s = v ∧ col f = g
        · obtain ⟨f, hf, z⟩ := c2
          rw [if_pos ⟨f, hf, z⟩, if_pos ⟨f, (mem_take_succ he).mpr (.inl hf), z⟩]
        · rw [if_neg c2, if_neg]
          rintro ⟨f, hf, z1, z2⟩
          rcases (mem_take_succ he).mp hf with hf | rfl
          · exact c2 ⟨f, hf, z1, z2⟩
          · exact c1 ⟨z1.symm, z2.symm⟩
  · rw [natsI_len, List.take_length] at hr1
    refine for_ex (P := fun o => ∃ (hl' : List Int) (rows' : Rows), o = pure (hl', rows', ()) ∧ hl'.length = hl.length ∧ (∀ e, e < hl.length → hl'[e]? = some (if e < k then ((turned C (one + other) col e : Nat) : Int) else -1)) ∧ WF c D rows' ∧ Pr c D E k (turned C (one + other) col) (RA rows') ∧ RA rows' 0 a one = -1 ∧ RA rows' 1 b one = -1)
      (fun j (s : List Int × Rows) => WF c D s.2 ∧ (∀ e ∈ C.take j, ∀ q, q < 2 → RA s.2 q (en E e q) (turned C (one + other) col e) = (e : Int)) ∧ (∀ q v g, q < 2 → (∀ e ∈ C.take j, ¬ (en E e q = v ∧ turned C (one + other) col e = g)) → RA s.2 q v g = RA r1 q v g) ∧
        s.1.length = hl.length ∧ ∀ e, e < hl.length → s.1[e]? = some (if e ∈ C.take j then ((turned C (one + other) col e : Nat) : Int) else if e < k then (col e : Int) else -1))
      ⟨w1, by simp, fun q v g _ _ => rfl, rfl, fun e he => by simpa using hH e he⟩ (fun i s x hx ⟨ws, hA, hB, hL, hV⟩ => ?_) (fun s ⟨ws, hA, hB, hL, hV⟩ => ?_)
    · obtain ⟨e, he, rfl⟩ := natsI_get hx
      have hem := List.mem_of_getElem? he
      have hek := hlt e hem
      have hnot : e ∉ C.take i := fun hm => by
        obtain ⟨j, hj⟩ := List.mem_iff_getElem?.mp hm
        have hji : j < i := by
          have := (List.getElem?_eq_some_iff.mp hj).1
          rw [List.length_take] at this
          omega
        rw [List.getElem?_take_of_lt hji] at hj
        have := h.inj j i e hj he
        omega
      have hi : idx s.1 (e : Int) = pure ((col e : Nat) : Int) := by
        have := idx_nat (hV e (by omega))
        rw [if_neg hnot, if_pos hek] at this
        exact this
      have hle : col e ≤ one + other := by
        obtain ⟨j, hj⟩ := List.mem_iff_getElem?.mp hem
        rw [(h.at_ hj).2.2]
        rcases hu_or (one := one) (other := other) j with z | z <;> omega
      have hnew : ((one : Int) + (other : Int)) - ((col e : Nat) : Int) = ((turned C (one + other) col e : Nat) : Int) := by
        unfold turned
        rw [if_pos hem]
        omega
      have hset : setO s.1 (e : Int) ((turned C (one + other) col e : Nat) : Int) = pure (s.1.set e ((turned C (one + other) col e : Nat) : Int)) := setO_nat (by omega)
      have hi2 : idx (s.1.set e ((turned C (one + other) col e : Nat) : Int)) (e : Int) = pure ((turned C (one + other) col e : Nat) : Int) := idx_nat (List.getElem?_set_self (by omega))
      obtain ⟨r', e1, w', g'⟩ := set_edge_e ws h.hD hek (turned_lt h e hek) (e : Int)
      refine ⟨(s.1.set e ((turned C (one + other) col e : Nat) : Int), r'), ?_, w', fun f hf q hq => ?_, fun q v g hq hno => ?_, by rw [List.length_set]; exact hL, fun f hf => ?_⟩
      · rw [hi, pbind, hnew, pbind, hset, pbind, ends_ok hE hek, pbind, hi2, pbind, e1, pbind]
      · rw [g' q _ _ hq]
        rcases (mem_take_succ he).mp hf with z | rfl
        · by_cases c1 : en E f q = en E e q ∧ turned C (one + other) col f = turned C (one + other) col e
          · exfalso
            have hfm : f ∈ C := List.mem_of_mem_take z
            have hfk := hlt f hfm
            have ec : col f = col e := by
              have := c1.2
              unfold turned at this
              rw [if_pos hem, if_pos hfm] at this
              have hlf : col f ≤ one + other := by
                obtain ⟨j, hj⟩ := List.mem_iff_getElem?.mp hfm
                rw [(h.at_ hj).2.2]
                rcases hu_or (one := one) (other := other) j with z | z <;> omega
              omega
            exact hnot (h.P.uniq hfk hek hq c1.1 ec ▸ z)
          · rw [if_neg c1]
            exact hA f z q hq
        · rw [if_pos ⟨rfl, rfl⟩]
      · rw [g' q _ _ hq, if_neg]
        · exact hB q v g hq fun f hf => hno f ((mem_take_succ he).mpr (.inl hf))
        · rintro ⟨z1, z2⟩
          exact hno e ((mem_take_succ he).mpr (.inr rfl)) ⟨z1.symm, z2.symm⟩
      · by_cases c1 : f = e
        · subst c1
          rw [List.getElem?_set_self (by omega), if_pos ((mem_take_succ he).mpr (.inr rfl))]
        · rw [List.getElem?_set_ne (Ne.symm c1), hV f hf]
          have : (f ∈ C.take (i + 1)) = (f ∈ C.take i) := propext (by rw [mem_take_succ he]; simp [c1])
          by_cases c2 : f ∈ C.take i
          · rw [if_pos c2, if_pos (this ▸ c2)]
          · rw [if_neg c2, if_neg (fun z => c2 (this ▸ z))]
    · rw [natsI_len, List.take_length] at hA hB hV
      obtain ⟨P', f1, f2⟩ := h.turn (R2 := RA s.2) (R1 := RA r1) (fun e he q hq => hA e he q hq) hB hr1
      refine ⟨s.1, s.2, rfl, hL, fun e he => ?_, ws, P', f1, f2⟩
      rw [hV e he]
      by_cases c1 : e ∈ C
      · rw [if_pos c1, if_pos (hlt e c1)]
      · rw [if_neg c1]
        have : turned C (one + other) col e = col e := if_neg c1
        rw [this]
end

/-! MH4: rows without hues; proper_hues. -/
theorem enumL_atH {α : Type} {xs : List α} {i : Nat} {x : Int × α} (h : (enumL xs)[i]? = some x) : x.1 = (i : Int) ∧ xs[i]? = some x.2 := by
  have hi := (List.getElem?_eq_some_iff.mp h).1
  rw [enumL_len] at hi
  rw [enumL_get (List.getElem?_eq_getElem hi)] at h
  have h := Option.some.inj h
  subst h
  exact ⟨rfl, List.getElem?_eq_getElem hi⟩
section
variable {c n : Nat} {E : Nat → Nd × Nd} {edges : List (Nd × Nd)}
/-- the nodes of the edges -/
def DE (E : Nat → Nd × Nd) (n s : Nat) (v : Nd) : Prop := ∃ e, e < n ∧ en E e s = v
theorem empty_ok (hl : edges.length = n) (hE : ∀ e, e < n → edges[e]? = some (E e)) (hc : c ≤ 16777216) (hn : n < 16777216) : ∃ rows, m_empty_rows edges (c : Int) = pure rows ∧ WF c (DE E n) rows ∧ ∀ s v h, RA rows s v h = -1 := by
  rw [m_empty_rows_eq]
  unfold b_empty_rows
  simp only [pbind]
  refine for_ex (P := fun o => ∃ rows : Rows, o = pure rows ∧ WF c (DE E n) rows ∧ ∀ s v h, RA rows s v h = -1)
    (fun j (r : Rows) => ∃ a b, r = [a, b] ∧ a.length ≤ j ∧ b.length ≤ j ∧ (∀ e, e < j → aget a (E e).1 = some (List.replicate c (-1))) ∧ (∀ e, e < j → aget b (E e).2 = some (List.replicate c (-1))) ∧ (∀ v x, aget a v = some x → x = List.replicate c (-1)) ∧ ∀ v x, aget b v = some x → x = List.replicate c (-1))
    ⟨[], [], rfl, Nat.le_refl _, Nat.le_refl _, fun e h => absurd h (by omega), fun e h => absurd h (by omega), fun v x h => (by cases h), fun v x h => (by cases h)⟩ (fun i r x hx ⟨a, b, hr, la, lb, ga, gb, wa, wb⟩ => ?_) (fun r ⟨a, b, hr, la, lb, ga, gb, wa, wb⟩ => ?_)
  · subst hr
    have hi : i < n := by rw [← hl]; exact (List.getElem?_eq_some_iff.mp hx).1
    rw [hE i hi] at hx
    cases hx
    have ex : ∀ (a : List (Nd × List Int)) (k : Nd) (q : Nd) (x : List Int), (∀ v x, aget a v = some x → x = List.replicate c (-1)) → aget (aput a k (List.replicate c (-1))) q = some x → x = List.replicate c (-1) := fun a k q x hw h => by
      rw [aget_aput] at h
      by_cases c1 : q = k
      · rw [if_pos c1] at h
        exact (Option.some.inj h).symm
      · rw [if_neg c1] at h
        exact hw q x h
    have eg : ∀ (a : List (Nd × List Int)) (k : Nat → Nd), (∀ e, e < i → aget a (k e) = some (List.replicate c (-1))) → ∀ e, e < i + 1 → aget (aput a (k i) (List.replicate c (-1))) (k e) = some (List.replicate c (-1)) := fun a k hw e he => by
      rw [aget_aput]
      by_cases c1 : k e = k i
      · rw [if_pos c1]
      · rw [if_neg c1]
        by_cases c2 : e = i
        · exact absurd (congrArg k c2) c1
        · exact hw e (by omega)
    refine ⟨[aput a (E i).1 (List.replicate c (-1)), aput b (E i).2 (List.replicate c (-1))], ?_, _, _, rfl, Nat.le_trans (aput_len _ _ _) (by omega), Nat.le_trans (aput_len _ _ _) (by omega), eg a (fun e => (E e).1) ga, eg b (fun e => (E e).2) gb, fun v x h => ex a _ v x wa h, fun v x h => ex b _ v x wb h⟩
    have i0 : idx [(E i).1, (E i).2] ((0 : Nat) : Int) = pure (E i).1 := idx_nat rfl
    have i1 : idx [(E i).1, (E i).2] ((1 : Nat) : Int) = pure (E i).2 := idx_nat rfl
    rw [upto2, forO2 (s1 := [aput a (E i).1 (List.replicate c (-1)), b]) (s2 := [aput a (E i).1 (List.replicate c (-1)), aput b (E i).2 (List.replicate c (-1))])]
    · rfl
    · rw [repO_nat hc, pbind, subO_nat (b := a) rfl, pbind, i0, pbind, aputO_ok (show a.length < 16777216 by omega), pbind]
      rfl
    · rw [repO_nat hc, pbind, subO_nat (b := b) rfl, pbind, i1, pbind, aputO_ok (show b.length < 16777216 by omega), pbind]
      rfl
  · subst hr
    rw [hl] at ga gb la lb
    refine ⟨_, rfl, ⟨rfl, fun s v hs hv => ?_⟩, fun s v h => ?_⟩
    · obtain ⟨e, he, hv⟩ := hv
      match s, hs with
      | 0, _ =>
        refine ⟨List.replicate c (-1), ?_, List.length_replicate⟩
        rw [← hv]
        exact ga e he
      | 1, _ =>
        refine ⟨List.replicate c (-1), ?_, List.length_replicate⟩
        rw [← hv]
        exact gb e he
    · have key : ∀ (a : List (Nd × List Int)), (∀ v x, aget a v = some x → x = List.replicate c (-1)) → (match aget a v with | some r => r[h]?.getD (-1) | none => -1 : Int) = -1 := fun a hw => by
        cases q : aget a v with
        | none => rfl
        | some x =>
          rw [hw v x q]
          show (List.replicate c (-1 : Int))[h]?.getD (-1) = -1
          rw [List.getElem?_replicate]
          split <;> rfl
      unfold RA
      match s with
      | 0 => exact key a wa
      | 1 => exact key b wb
      | s + 2 => rfl
/-- the least hue that is free -/
theorem free_ok {r : List Int} (hl : r.length = c) {R : Nat → Int} (hr : ∀ h, h < c → r[h]? = some (R h)) (hf : ∃ h, h < c ∧ R h = -1) : ∃ h : Nat, indexO r (-1) = pure (h : Int) ∧ h < c ∧ R h = -1 := by
  obtain ⟨h, hh, hR⟩ := hf
  have hm : (-1 : Int) ∈ r := by
    have := hr h hh
    rw [hR] at this
    exact List.mem_of_getElem? this
  refine ⟨r.findIdx (fun y => decide (y = -1)), if_pos hm, ?_, ?_⟩
  · rw [← hl]
    exact List.findIdx_lt_length_of_exists ⟨-1, hm, by simp⟩
  · have hlt : r.findIdx (fun y => decide (y = -1)) < r.length := List.findIdx_lt_length_of_exists ⟨-1, hm, by simp⟩
    have h1 := hr _ (by rw [← hl]; exact hlt)
    rw [List.getElem?_eq_getElem hlt] at h1
    have h2 := List.findIdx_getElem (w := hlt)
    have h3 := of_decide_eq_true h2
    rw [Option.some.inj h1] at h3
    exact h3
structure Proper (c n : Nat) (E : Nat → Nd × Nd) (col : Nat → Nat) : Prop where
  lt : ∀ e, e < n → col e < c
  ne : ∀ e f s, e < n → f < n → s < 2 → en E e s = en E f s → col e = col f → e = f
theorem free_at {k : Nat} {col : Nat → Nat} {R : Nat → Nd → Nat → Int} (P : Pr c (DE E n) E k col R) (hk : k < n) (hdeg : ∀ s v (l : List Nat), s < 2 → l.Nodup → (∀ e ∈ l, e < n ∧ en E e s = v) → l.length ≤ c) {s : Nat} (hs : s < 2) : ∃ h, h < c ∧ R s (en E k s) h = -1 := by
  by_cases hex : ∃ h, h < c ∧ R s (en E k s) h = -1
  · exact hex
  · exfalso
    have hall : ∀ h, h < c → ∃ e, e < k ∧ en E e s = en E k s ∧ col e = h := fun h hh => by
      rcases P.of s (en E k s) h hs ⟨k, hk, rfl⟩ hh with z | ⟨e, h1, _, h3, h4⟩
      · exact absurd ⟨h, hh, z⟩ hex
      · exact ⟨e, h1, h3, h4⟩
    -- the list of the edges there, by hue
    have hlist : ∀ m, m ≤ c → ∃ l : List Nat, l.length = m ∧ l.Nodup ∧ ∀ e ∈ l, e < k ∧ en E e s = en E k s ∧ col e < m := by
      intro m
      induction m with
      | zero => intro _; exact ⟨[], rfl, List.nodup_nil, by simp⟩
      | succ m ih =>
        intro hm
        obtain ⟨l, h1, h2, h3⟩ := ih (by omega)
        obtain ⟨e, g1, g2, g3⟩ := hall m (by omega)
        refine ⟨e :: l, by simp [h1], List.nodup_cons.mpr ⟨fun z => ?_, h2⟩, fun f hf => ?_⟩
        · have := (h3 e z).2.2
          omega
        · rcases List.mem_cons.mp hf with rfl | hf
          · exact ⟨g1, g2, by omega⟩
          · obtain ⟨a1, a2, a3⟩ := h3 f hf
            exact ⟨a1, a2, by omega⟩
    obtain ⟨l, h1, h2, h3⟩ := hlist c (Nat.le_refl _)
    have := hdeg s (en E k s) (k :: l) hs (List.nodup_cons.mpr ⟨fun z => by
      have := (h3 k z).1
      omega, h2⟩) (fun e he => by
      rcases List.mem_cons.mp he with rfl | he
      · exact ⟨hk, rfl⟩
      · exact ⟨by have := (h3 e he).1; omega, (h3 e he).2.1⟩)
    simp only [List.length_cons, h1] at this
    omega
/-- an edge gets its hue -/
theorem Pr.add {k : Nat} {col : Nat → Nat} {R R' : Nat → Nd → Nat → Int} {one : Nat} (P : Pr c (DE E n) E k col R) (hk : k < n) (h1 : one < c) (f0 : ∀ s, s < 2 → R s (en E k s) one = -1) (hR : ∀ s v h, s < 2 → R' s v h = if v = en E k s ∧ h = one then (k : Int) else R s v h) :
    Pr c (DE E n) E (k + 1) (fun e => if e = k then one else col e) R' := by
  refine ⟨fun e he => ?_, fun e s he hs => ?_, fun s v h hs hv hh => ?_⟩
  · by_cases c1 : e = k
    · simp only [if_pos c1]; exact h1
    · simp only [if_neg c1]; exact P.lt e (by omega)
  · rw [hR s _ _ hs]
    by_cases c1 : e = k
    · subst c1
      rw [if_pos ⟨rfl, by simp⟩]
    · simp only [if_neg c1]
      rw [if_neg]
      · exact P.at_ e s (by omega) hs
      · rintro ⟨z1, z2⟩
        have := P.at_ e s (by omega) hs
        rw [z1, z2, f0 s hs] at this
        omega
  · rw [hR s v h hs]
    by_cases c1 : v = en E k s ∧ h = one
    · rw [if_pos c1]
      exact .inr ⟨k, by omega, rfl, c1.1.symm, by simp [c1.2]⟩
    · rw [if_neg c1]
      rcases P.of s v h hs hv hh with z | ⟨e, a1, a2, a3, a4⟩
      · exact .inl z
      · exact .inr ⟨e, by omega, a2, a3, by simp only [if_neg (show e ≠ k by omega)]; exact a4⟩
theorem proper_ok (hl : edges.length = n) (hE : ∀ e, e < n → edges[e]? = some (E e)) (hc : c ≤ 16777216) (hn : n < 16777216) (hdeg : ∀ s v (l : List Nat), s < 2 → l.Nodup → (∀ e ∈ l, e < n ∧ en E e s = v) → l.length ≤ c) :
    ∃ col, m_proper_hues edges (c : Int) = pure ((List.range n).map fun e => (col e : Int)) ∧ Proper c n E col := by
  obtain ⟨rows0, e0, w0, g0⟩ := empty_ok hl hE hc hn
  rw [m_proper_hues_eq]
  unfold b_proper_hues
  rw [e0, pbind, hl, repO_nat (by omega), pbind, pbind]
  refine for_ex (P := fun o => ∃ col, o = pure ((List.range n).map fun e => ((col e : Nat) : Int)) ∧ Proper c n E col)
    (fun j (s : List Int × Rows) => ∃ col, WF c (DE E n) s.2 ∧ Pr c (DE E n) E j col (RA s.2) ∧ s.1.length = n ∧ ∀ e, e < n → s.1[e]? = some (if e < j then ((col e : Nat) : Int) else -1))
    ⟨fun _ => 0, w0, ⟨fun e h => absurd h (by omega), fun e s h => absurd h (by omega), fun s v h _ _ _ => .inl (g0 s v h)⟩, by simp, fun e he => by rw [List.getElem?_replicate, if_pos he, if_neg (by omega)]⟩ (fun i s x hx ⟨col, w, P, hL, hV⟩ => ?_) (fun s ⟨col, w, P, hL, hV⟩ => ?_)
  · obtain ⟨hx1, hx2⟩ := enumL_atH hx
    have hi : i < n := by rw [← hl]; exact (List.getElem?_eq_some_iff.mp hx2).1
    rw [hE i hi] at hx2
    have hx2 := (Option.some.inj hx2).symm
    have d0 : DE E n 0 (E i).1 := ⟨i, hi, rfl⟩
    have d1 : DE E n 1 (E i).2 := ⟨i, hi, rfl⟩
    obtain ⟨r0, er0, l0, gr0⟩ := wf_get w (s := 0) (by decide) d0
    obtain ⟨r1, er1, l1, gr1⟩ := wf_get w (s := 1) (by decide) d1
    obtain ⟨one, io, ho, fo⟩ := free_ok l0 gr0 (free_at P hi hdeg (s := 0) (by decide))
    obtain ⟨other, it, ht, ft⟩ := free_ok l1 gr1 (free_at P hi hdeg (s := 1) (by decide))
    have hDk : ∀ e s, e < i → s < 2 → DE E n s (en E e s) := fun e s he _ => ⟨e, by omega, rfl⟩
    -- before the edge is set
    have mid : ∃ (hl' : List Int) (rows' : Rows) (col' : Nat → Nat), ((pure (!decide ((one : Int) = (other : Int)))) >>= fun c7 => if c7 = true then ((m_chain_of edges s.2 (E i).2 (one : Int) (other : Int) >>= fun t9 => m_turn_chain edges s.1 s.2 t9 ((one : Int) + (other : Int))) >>= fun o10 => pure (o10.1, o10.2.1)) else (pure (s.1, s.2) : Out (List Int × Rows))) = pure (hl', rows') ∧
        WF c (DE E n) rows' ∧ Pr c (DE E n) E i col' (RA rows') ∧ hl'.length = n ∧ (∀ e, e < n → hl'[e]? = some (if e < i then ((col' e : Nat) : Int) else -1)) ∧ ∀ q, q < 2 → RA rows' q (en E i q) one = -1 := by
      by_cases ce : one = other
      · subst ce
        refine ⟨s.1, s.2, col, ?_, w, P, hL, hV, fun q hq => ?_⟩
        · rw [pbind]
          simp
        · match q, hq with
          | 0, _ => exact fo
          | 1, _ => exact ft
      · obtain ⟨C, eC, hC, hend⟩ := chain_ok w P (fun e he => hE e (by omega)) hDk d1 ho ht ce ft (by omega)
        have hcl : Cl c (DE E n) E i col (RA s.2) (E i).1 (E i).2 one other C := ⟨P, hDk, d0, d1, ho, ht, ce, fo, ft, hC, hend⟩
        obtain ⟨hl', rows', et, z1, z2, z3, z4, z5, z6⟩ := turn_ok hcl w (fun e he => hE e (by omega)) (hl := s.1) (by omega) (fun e he => hV e (by omega))
        refine ⟨hl', rows', _, ?_, z3, z4, by omega, fun e he => z2 e (by omega), fun q hq => ?_⟩
        · have hne : (!decide ((one : Int) = (other : Int))) = true := by simp; omega
          rw [pbind, hne, if_pos rfl, eC, pbind, et, pbind]
        · match q, hq with
          | 0, _ => exact z5
          | 1, _ => exact z6
    obtain ⟨hl', rows', col', emid, w', P', hL', hV', f'⟩ := mid
    obtain ⟨rows2, es, w2, g2⟩ := set_edge_ok w' d0 d1 ho (i : Int)
    refine ⟨(hl'.set i (one : Int), rows2), ?_, fun e => if e = i then one else col' e, w2, P'.add hi ho f' g2, by rw [List.length_set]; exact hL', fun e he => ?_⟩
    · rw [hx1, hx2]
      have e0' : (idx s.2 (0 : Int) >>= fun t => agetO t (E i).1) = pure r0 := er0
      have e1' : (idx s.2 (1 : Int) >>= fun t => agetO t (E i).2) = pure r1 := er1
      rw [e0', pbind, io, pbind, e1', pbind, it, pbind, emid, pbind, pbind, pbind, setO_nat (show i < hl'.length by omega), pbind, es, pbind]
    · by_cases c1 : e = i
      · subst c1
        rw [List.getElem?_set_self (by omega), if_pos (by omega)]
        simp
      · rw [List.getElem?_set_ne (Ne.symm c1), hV' e he]
        simp only [if_neg c1]
        by_cases c2 : e < i
        · rw [if_pos c2, if_pos (by omega)]
        · rw [if_neg c2, if_neg (by omega)]
  · rw [enumL_len, hl] at P hV
    refine ⟨col, ?_, ⟨P.lt, fun e f s he hf hs h1 h2 => P.uniq he hf hs h1 h2⟩⟩
    have : s.1 = (List.range n).map fun e => ((col e : Nat) : Int) := by
      apply List.ext_getElem?
      intro i
      by_cases hi : i < n
      · rw [hV i hi, if_pos hi, List.getElem?_map, List.getElem?_range hi]
        rfl
      · rw [List.getElem?_eq_none (by omega), List.getElem?_eq_none (by simp; omega)]
    rw [this]
end

/-! MH5: ends in groups; even hues. -/
section
variable {c n : Nat} {T : List (Int × Int)}
/-- the end of edge e at side s -/
def ed (T : List (Int × Int)) (e s : Nat) : Int := if s = 0 then ((T[e]?).getD (0, 0)).1 else ((T[e]?).getD (0, 0)).2
/-- how many edges before e have that end -/
def rk (T : List (Int × Int)) (s : Nat) (v : Int) (e : Nat) : Nat := ((List.range e).filter fun f => decide (ed T f s = v)).length
theorem rk_succ (s : Nat) (v : Int) (e : Nat) : rk T s v (e + 1) = rk T s v e + if ed T e s = v then 1 else 0 := by
  unfold rk
  rw [List.range_succ, List.filter_append, List.length_append]
  by_cases h : ed T e s = v
  · rw [if_pos h, List.filter_cons_of_pos (by simp [h])]; rfl
  · rw [if_neg h, List.filter_cons_of_neg (by simp [h])]; rfl
theorem rk_le (s : Nat) (v : Int) : ∀ e, rk T s v e ≤ e
  | 0 => Nat.le_refl _
  | e + 1 => by
    have := rk_le s v e
    rw [rk_succ]
    split <;> omega
theorem rk_mono (s : Nat) (v : Int) {e f : Nat} (h : e ≤ f) : rk T s v e ≤ rk T s v f := by
  induction f with
  | zero => rw [show e = 0 by omega]; exact Nat.le_refl _
  | succ f ih =>
    by_cases c : e = f + 1
    · rw [c]; exact Nat.le_refl _
    · have := ih (by omega)
      rw [rk_succ]
      split <;> omega
/-- the port of edge e at side s -/
def gp (c : Nat) (T : List (Int × Int)) (e : Nat) : Nd × Nd := ((ed T e 0, ((rk T 0 (ed T e 0) e / c : Nat) : Int)), (ed T e 1, ((rk T 1 (ed T e 1) e / c : Nat) : Int)))
theorem gp_en (e s : Nat) (hs : s < 2) : en (gp c T) e s = (ed T e s, ((rk T s (ed T e s) e / c : Nat) : Int)) := by
  match s, hs with
  | 0, _ => rfl
  | 1, _ => rfl
theorem divO_nat {a b : Nat} (h : 0 < b) (h2 : b < 1073741824) : divO (a : Int) (b : Int) = pure ((a / b : Nat) : Int) := by
  rw [divO_ok (by omega) (by omega)]
  congr 1
theorem grouped_ok (hc : 0 < c) (hc2 : c < 1073741824) (hl : T.length = n) (hn : n < 16777216) : m_grouped (T.map fun x => [x.1, x.2]) (c : Int) = pure ((List.range n).map (gp c T)) := by
  rw [m_grouped_eq]
  unfold b_grouped
  simp only [pbind]
  refine for_ex (P := fun o => o = pure ((List.range n).map (gp c T)))
    (fun j (s : List (List (Int × Int)) × List (Nd × Nd)) => ∃ a b, s.1 = [a, b] ∧ a.length ≤ j ∧ b.length ≤ j ∧ (∀ v, (aget a v).getD 0 = ((rk T 0 v j : Nat) : Int)) ∧ (∀ v, (aget b v).getD 0 = ((rk T 1 v j : Nat) : Int)) ∧ s.2 = (List.range j).map (gp c T))
    ⟨[], [], rfl, Nat.le_refl _, Nat.le_refl _, fun v => rfl, fun v => rfl, rfl⟩ (fun i s x hx ⟨a, b, hs, la, lb, ga, gb, ht⟩ => ?_) (fun s ⟨a, b, hs, la, lb, ga, gb, ht⟩ => ?_)
  · obtain ⟨s1, s2⟩ := s
    have hs : s1 = [a, b] := hs
    have ht : s2 = (List.range i).map (gp c T) := ht
    subst hs ht
    have hi : i < n := by
      have := (List.getElem?_eq_some_iff.mp hx).1
      rw [List.length_map, hl] at this
      exact this
    have hxi : x = [ed T i 0, ed T i 1] := by
      rw [List.getElem?_map, List.getElem?_eq_getElem (by omega)] at hx
      have hx := Option.some.inj hx
      rw [← hx]
      unfold ed
      rw [List.getElem?_eq_getElem (by omega)]
      rfl
    subst hxi
    have i0 : idx [ed T i 0, ed T i 1] ((0 : Nat) : Int) = pure (ed T i 0) := idx_nat rfl
    have i1 : idx [ed T i 0, ed T i 1] ((1 : Nat) : Int) = pure (ed T i 1) := idx_nat rfl
    refine ⟨([aput a (ed T i 0) (((rk T 0 (ed T i 0) i : Nat) : Int) + 1), aput b (ed T i 1) (((rk T 1 (ed T i 1) i : Nat) : Int) + 1)], (List.range (i + 1)).map (gp c T)), ?_, _, _, rfl, Nat.le_trans (aput_len _ _ _) (by omega), Nat.le_trans (aput_len _ _ _) (by omega), fun v => ?_, fun v => ?_, rfl⟩
    · rw [upto2, forO2 (s1 := ([(ed T i 0, ((rk T 0 (ed T i 0) i / c : Nat) : Int))], [aput a (ed T i 0) (((rk T 0 (ed T i 0) i : Nat) : Int) + 1), b]))
        (s2 := ([(ed T i 0, ((rk T 0 (ed T i 0) i / c : Nat) : Int)), (ed T i 1, ((rk T 1 (ed T i 1) i / c : Nat) : Int))], [aput a (ed T i 0) (((rk T 0 (ed T i 0) i : Nat) : Int) + 1), aput b (ed T i 1) (((rk T 1 (ed T i 1) i : Nat) : Int) + 1)]))]
      · have j0 : idx [(ed T i 0, ((rk T 0 (ed T i 0) i / c : Nat) : Int)), (ed T i 1, ((rk T 1 (ed T i 1) i / c : Nat) : Int))] (0 : Int) = pure (ed T i 0, ((rk T 0 (ed T i 0) i / c : Nat) : Int)) := idx_nat (k := 0) rfl
        have j1 : idx [(ed T i 0, ((rk T 0 (ed T i 0) i / c : Nat) : Int)), (ed T i 1, ((rk T 1 (ed T i 1) i / c : Nat) : Int))] (1 : Int) = pure (ed T i 1, ((rk T 1 (ed T i 1) i / c : Nat) : Int)) := idx_nat (k := 1) rfl
        rw [pbind]
        simp only [j0, j1, pbind]
        rw [appO_ok (by simp; omega), pbind, List.range_succ, List.map_append]
        rfl
      · have k0 : idx [a, b] ((0 : Nat) : Int) = pure a := idx_nat rfl
        simp only [k0, i0, pbind, ga, divO_nat hc hc2]
        rw [subO_nat (b := a) rfl, pbind, aputO_ok (show a.length < 16777216 by omega), pbind, appO_ok (by simp), pbind]
        rfl
      · have k1 : idx [aput a (ed T i 0) (((rk T 0 (ed T i 0) i : Nat) : Int) + 1), b] ((1 : Nat) : Int) = pure b := idx_nat rfl
        simp only [k1, i1, pbind, gb, divO_nat hc hc2]
        rw [subO_nat (b := b) rfl, pbind, aputO_ok (show b.length < 16777216 by omega), pbind, appO_ok (by simp), pbind]
        rfl
    · rw [aget_aput, rk_succ]
      by_cases h : v = ed T i 0
      · subst h
        rw [if_pos rfl, if_pos rfl]
        simp
      · rw [if_neg h, if_neg (Ne.symm h), ga]
        rfl
    · rw [aget_aput, rk_succ]
      by_cases h : v = ed T i 1
      · subst h
        rw [if_pos rfl, if_pos rfl]
        simp
      · rw [if_neg h, if_neg (Ne.symm h), gb]
        rfl
  · rw [ht]
    rw [List.length_map, hl]
/-- a port bears at most c edges -/
theorem gp_deg (hc : 0 < c) (s : Nat) (hs : s < 2) (v : Nd) (l : List Nat) (hn : l.Nodup) (h : ∀ e ∈ l, e < n ∧ en (gp c T) e s = v) : l.length ≤ c := by
  -- by their ranks they are different numbers of one block
  have inj : ∀ e ∈ l, ∀ f ∈ l, rk T s v.1 e = rk T s v.1 f → e = f := fun e he f hf hr => by
    have key : ∀ e f, e ∈ l → f ∈ l → e < f → rk T s v.1 e = rk T s v.1 f → False := fun e f he hf hef hr => by
      have h1 := (h e he).2
      rw [gp_en e s hs] at h1
      have h2 : ed T e s = v.1 := congrArg Prod.fst h1
      have h3 := rk_mono (T := T) s v.1 (show e + 1 ≤ f by omega)
      rw [rk_succ, if_pos h2] at h3
      omega
    rcases Nat.lt_trichotomy e f with z | z | z
    · exact (key e f he hf z hr).elim
    · exact z
    · exact (key f e hf he z hr.symm).elim
  have hv : ∀ e ∈ l, ((rk T s v.1 e / c : Nat) : Int) = v.2 := fun e he => by
    have h1 := (h e he).2
    rw [gp_en e s hs] at h1
    have h2 : ed T e s = v.1 := congrArg Prod.fst h1
    have h3 := congrArg Prod.snd h1
    rw [h2] at h3
    exact h3
  have hnd : (l.map fun e => rk T s v.1 e % c).Nodup := by
    rw [List.nodup_iff_pairwise_ne, List.pairwise_map]
    refine List.Pairwise.imp_of_mem (fun {e f} he hf hne heq => hne ?_) (List.nodup_iff_pairwise_ne.mp hn)
    have q1 := hv e he
    have q2 := hv f hf
    refine inj e he f hf ?_
    have q3 : rk T s v.1 e / c = rk T s v.1 f / c := by omega
    have e1 := Nat.div_add_mod (rk T s v.1 e) c
    have e2 := Nat.div_add_mod (rk T s v.1 f) c
    rw [q3, heq] at e1
    omega
  have := nodup_len _ (List.range c) hnd fun x hx => by
    obtain ⟨e, _, rfl⟩ := List.mem_map.mp hx
    exact List.mem_range.mpr (Nat.mod_lt _ hc)
  simpa using this
/-- the hues of the edges with the end v at side s, in their row -/
def hs (T : List (Int × Int)) (n : Nat) (col : Nat → Nat) (s : Nat) (v : Int) : List Nat := ((List.range n).filter fun e => decide (ed T e s = v)).map col
theorem filt_get (s : Nat) (v : Int) : ∀ (n i e : Nat), ((List.range n).filter fun e => decide (ed T e s = v))[i]? = some e → e < n ∧ ed T e s = v ∧ rk T s v e = i
  | 0, i, e, h => by simp at h
  | n + 1, i, e, h => by
    rw [List.range_succ, List.filter_append] at h
    by_cases hi : i < ((List.range n).filter fun e => decide (ed T e s = v)).length
    · rw [List.getElem?_append_left hi] at h
      obtain ⟨a1, a2, a3⟩ := filt_get s v n i e h
      exact ⟨by omega, a2, a3⟩
    · rw [List.getElem?_append_right (by omega)] at h
      by_cases hv : ed T n s = v
      · rw [List.filter_cons_of_pos (by simp [hv])] at h
        have hl := (List.getElem?_eq_some_iff.mp h).1
        simp at hl
        have : i - ((List.range n).filter fun e => decide (ed T e s = v)).length = 0 := by omega
        rw [this] at h
        simp at h
        subst h
        exact ⟨by omega, hv, by unfold rk; omega⟩
      · rw [List.filter_cons_of_neg (by simp [hv])] at h
        simp at h
theorem even_count (hc : 0 < c) {col : Nat → Nat} (P : Proper c n (gp c T) col) (s : Nat) (hss : s < 2) (v : Int) (h : Nat) (hh : h < c) : (hs T n col s v).length / c ≤ (hs T n col s v).count h ∧ (hs T n col s v).count h ≤ ((hs T n col s v).length + c - 1) / c := by
  have get : ∀ (i a : Nat), (hs T n col s v)[i]? = some a → ∃ e, e < n ∧ ed T e s = v ∧ rk T s v e = i ∧ col e = a := fun i a hi => by
    unfold hs at hi
    rw [List.getElem?_map] at hi
    cases he : ((List.range n).filter fun e => decide (ed T e s = v))[i]? with
    | none => rw [he] at hi; cases hi
    | some e =>
      rw [he] at hi
      obtain ⟨a1, a2, a3⟩ := filt_get s v n i e he
      exact ⟨e, a1, a2, a3, Option.some.inj hi⟩
  refine block_count hc h hh _ _ (Nat.le_refl _) (fun a ha => ?_) (fun i j a hi hj hij => ?_)
  · obtain ⟨i, hi⟩ := List.mem_iff_getElem?.mp ha
    obtain ⟨e, h1, _, _, h4⟩ := get i a hi
    rw [← h4]
    exact P.lt e h1
  · obtain ⟨e, e1, e2, e3, e4⟩ := get i a hi
    obtain ⟨f, f1, f2, f3, f4⟩ := get j a hj
    have : e = f := P.ne e f s e1 f1 hss (by rw [gp_en e s hss, gp_en f s hss, e2, f2, e3, f3, hij]) (by rw [e4, f4])
    subst this
    omega
end

/-! MH6: even_hues from the edges as data. -/
theorem asAll_map {α β : Type} {f : PyData → Out β} {g : α → PyData} {h : α → β} : ∀ xs : List α, (∀ x ∈ xs, f (g x) = pure (h x)) → asAll f (xs.map g) = pure (xs.map h)
  | [], _ => rfl
  | x :: xs, hx => by
    have ih := asAll_map xs fun y hy => hx y (by simp [hy])
    rw [List.map_cons, List.map_cons]
    unfold asAll
    rw [hx x (by simp), ih]
    rfl
theorem frz_lists (T : List (List Int)) : asTup (asTup asInt) (frzD ((cLst (cLst cInt)).d T)) = pure T := by
  have e : frzD ((cLst (cLst cInt)).d T) = .tuple (T.map fun xs => .tuple (xs.map .int)) := by
    show frzD (.list (T.map (cLst cInt).d)) = _
    rw [frzD, frzDs_map, List.map_map]
    congr 1
    refine List.map_congr_left fun xs _ => ?_
    show frzD (.list (xs.map cInt.d)) = _
    rw [frzD, frzDs_map, List.map_map]
    congr 1
  rw [e]
  show asAll (asTup asInt) _ = _
  rw [asAll_map (h := fun xs => xs) T fun xs _ => ?_, List.map_id']
  show asAll asInt _ = _
  rw [asAll_map (h := fun x => x) xs fun x _ => rfl, List.map_id']
theorem frz_pairs (E : List (Int × Int)) : asTup (asTup asInt) (frzD ((cTup (cT2 cInt cInt)).d E)) = pure (E.map fun e => [e.1, e.2]) := by
  have e : frzD ((cTup (cT2 cInt cInt)).d E) = .tuple (E.map fun e => .tuple [.int e.1, .int e.2]) := by
    show frzD (.tuple (E.map (cT2 cInt cInt).d)) = _
    rw [frzD, frzDs_map, List.map_map]
    congr 1
  rw [e]
  show asAll (asTup asInt) _ = _
  rw [asAll_map (h := fun e => [e.1, e.2]) E fun e _ => rfl]
theorem dn_ok {α : Type} [DecidableEq α] (c : Code α) (a : α) (h : c.n ≤ 8) : dnO 8 (c.d a) = pure (c.d a) := if_pos (Nat.le_trans (c.dep a) h)
theorem even_ok {c n : Nat} {T : List (Int × Int)} {d : PyData} (h1 : 1 ≤ c) (h2 : c ≤ 24) (hl : T.length = n) (hn : n < 16777216) (hd : dnO 8 d = pure d) (ha : asTup (asTup asInt) (frzD d) = pure (T.map fun x => [x.1, x.2])) :
    ∃ col, m_even_hues d (c : Int) = pure ((List.range n).map fun e => ((col e : Nat) : Int)) ∧ Proper c n (gp c T) col := by
  obtain ⟨col, e, P⟩ := proper_ok (c := c) (n := n) (E := gp c T) (edges := (List.range n).map (gp c T)) (by simp) (fun e he => by rw [List.getElem?_map, List.getElem?_range he]; rfl) (by omega) hn (fun s v l hs hnd h => gp_deg (by omega) s hs v l hnd h)
  refine ⟨col, ?_, P⟩
  rw [m_even_hues_eq]
  unfold b_even_hues
  rw [if_pos (show decide ((1 : Int) ≤ (c : Int)) = true by simp; omega), pbind, pbind, if_neg (by simp; omega), hd, pbind, m_frozen_eq]
  show ((((pure (frzD d) : Out PyData) >>= _) >>= _) >>= _) = _
  rw [pbind, ha, pbind, grouped_ok (by omega) (by omega) hl hn, pbind, e]
/-- where a node's edges are whole groups, each hue stands alike often -/
theorem reg_count {c n t : Nat} {T : List (Int × Int)} {col : Nat → Nat} (hc : 0 < c) (P : Proper c n (gp c T) col) {s : Nat} (hs2 : s < 2) {v : Int} (hl : (hs T n col s v).length = c * t) {h : Nat} (hh : h < c) : (hs T n col s v).count h = t := by
  obtain ⟨a, b⟩ := even_count hc P s hs2 v h hh
  rw [hl] at a b
  rw [Nat.mul_div_cancel_left _ hc] at a
  have : (c * t + c - 1) / c = t := by
    rw [Nat.div_eq_iff hc]
    have := Nat.mul_comm c t
    omega
  omega
theorem hs_succ {n : Nat} {T : List (Int × Int)} {col : Nat → Nat} {s : Nat} {v : Int} : hs T (n + 1) col s v = if ed T n s = v then hs T n col s v ++ [col n] else hs T n col s v := by
  unfold hs
  rw [List.range_succ, List.filter_append]
  by_cases h : ed T n s = v
  · rw [if_pos h, List.filter_cons_of_pos (by simp [h])]
    simp
  · rw [if_neg h, List.filter_cons_of_neg (by simp [h])]
    simp
theorem aget_mem {κ α : Type} [DecidableEq κ] : ∀ {a : List (κ × α)} {k : κ}, k ∈ a.map Prod.fst → ∃ x, aget a k = some x
  | [], _, h => by simp at h
  | (i, y) :: r, k, h => by
    unfold aget
    by_cases c : i = k
    · exact ⟨y, by rw [if_pos c]⟩
    · rw [if_neg c]
      simp only [List.map_cons, List.mem_cons] at h
      exact aget_mem (h.resolve_left (Ne.symm c))
theorem ed_at {T : List (Int × Int)} {i : Nat} (hi : i < T.length) {s : Nat} (hs : s < 2) : ((idx T (i : Int) >>= fun t => (pure [t.1, t.2] : Out (List Int))) >>= fun t => idx t (s : Int)) = pure (ed T i s) := by
  rw [idx_nat (List.getElem?_eq_getElem hi), pbind, pbind]
  unfold ed
  rw [List.getElem?_eq_getElem hi]
  match s, hs with
  | 0, _ => exact idx_nat rfl
  | 1, _ => exact idx_nat rfl
theorem forR_nx {α ρ : Type} {f : Unit → α → Out (Step ρ Unit)} : ∀ xs : List α, (∀ x ∈ xs, f () x = pure (Step.nx ())) → forR f xs () = pure (Step.nx ())
  | [], _ => rfl
  | x :: xs, h => by
    unfold forR
    rw [h x (by simp)]
    exact forR_nx xs fun y hy => h y (by simp [hy])
theorem for_ex0 {α S : Type} {f : S → α → Out S} {s0 : S} {xs : List α} {P : Out S → Prop} (I : Nat → S → Prop) (h0 : I 0 s0) (h : ∀ i s x, xs[i]? = some x → I i s → ∃ s', f s x = pure s' ∧ I (i + 1) s') (hf : ∀ s, I xs.length s → P (pure s)) : P (forO f xs s0) := by
  obtain ⟨s', e, q⟩ := forO_inv0 I xs s0 h0 h
  rw [e]
  exact hf s' q
abbrev prs (U : List (Int × Int)) : List (List Int) := U.map fun x => [x.1, x.2]

/-! MJ1: evenness judged, by the law and by hues_even (k18). -/
def rowOk (f : Nat → Nat) (c : Nat) : Prop := ∀ h h', h < c → h' < c → f h ≤ f h' + 1
abbrev rowI (f : Nat → Nat) (c : Nat) : List Int := (List.range c).map fun h => ((f h : Nat) : Int)
theorem row_mm {c : Nat} (hc : 0 < c) (f : Nat → Nat) : ∃ M m : Int, maxL (rowI f c) = pure M ∧ minL (rowI f c) = pure m ∧ (1 < M - m ↔ ¬ rowOk f c) := by
  have hne : ∃ x xs, rowI f c = x :: xs := by
    cases e : rowI f c with
    | nil =>
      have := congrArg List.length e
      simp at this
      omega
    | cons x xs => exact ⟨x, xs, rfl⟩
  obtain ⟨x, xs, e⟩ := hne
  obtain ⟨a1, a2⟩ := foldl_max xs x
  obtain ⟨b1, b2⟩ := foldl_min xs x
  rw [← e] at a1 a2 b1 b2
  obtain ⟨h, hh, eh⟩ := List.mem_map.mp a1
  obtain ⟨h', hh', eh'⟩ := List.mem_map.mp b1
  have hh := List.mem_range.mp hh
  have hh' := List.mem_range.mp hh'
  refine ⟨_, _, by rw [e]; rfl, by rw [e]; rfl, ?_⟩
  constructor
  · intro w r
    have := r h h' hh hh'
    omega
  · intro w
    refine Classical.byContradiction fun z => w fun k k' hk hk' => ?_
    have q1 := a2 _ (List.mem_map_of_mem (List.mem_range.mpr hk))
    have q2 := b2 _ (List.mem_map_of_mem (List.mem_range.mpr hk'))
    omega
theorem forR_bool {α : Type} {f : Unit → α → Out (Step Bool Unit)} {bad : α → Prop} : ∀ xs : List α, (∀ x ∈ xs, (bad x ∧ f () x = pure (Step.rt false)) ∨ (¬ bad x ∧ f () x = pure (Step.nx ()))) →
    ((∃ x ∈ xs, bad x) ∧ forR f xs () = pure (Step.rt false)) ∨ ((∀ x ∈ xs, ¬ bad x) ∧ forR f xs () = pure (Step.nx ()))
  | [], _ => .inr ⟨by simp, rfl⟩
  | x :: xs, h => by
    rcases h x (by simp) with ⟨b, e⟩ | ⟨b, e⟩
    · refine .inl ⟨⟨x, by simp, b⟩, ?_⟩
      unfold forR
      rw [e]
      rfl
    · rcases forR_bool xs fun y hy => h y (by simp [hy]) with ⟨⟨y, hy, yb⟩, e2⟩ | ⟨g, e2⟩
      · refine .inl ⟨⟨y, by simp [hy], yb⟩, ?_⟩
        unfold forR
        rw [e]
        exact e2
      · refine .inr ⟨fun y hy => ?_, ?_⟩
        · rcases List.mem_cons.mp hy with z | z
          · rw [z]; exact b
          · exact g y z
        · unfold forR
          rw [e]
          exact e2
def Ev (T : List (Int × Int)) (n : Nat) (col : Nat → Nat) (c s : Nat) : Prop := ∀ e, e < n → rowOk (fun h => (hs T n col s (ed T e s)).count h) c
abbrev colI (n : Nat) (col : Nat → Nat) : List Int := (List.range n).map fun e => ((col e : Nat) : Int)
/-- the law's judge of one side -/
theorem side_ok {c n : Nat} {T : List (Int × Int)} {col : Nat → Nat} {s : Nat} (hs2 : s < 2) (hn : T.length = n) (hn2 : n < 16777216) (hc0 : 0 < c) (hc : c ≤ 16777216) (hcol : ∀ e, e < n → col e < c) :
    ∃ b, m_law_even_side T (s : Int) (c : Int) (colI n col) = pure b ∧ (b = true ↔ Ev T n col c s) := by
  rw [m_law_even_side_eq]
  unfold b_law_even_side
  rw [pbind, pbind]
  refine for_ex (P := fun o => ∃ b, o = pure b ∧ (b = true ↔ Ev T n col c s))
    (fun j (s1 : List (Int × List Int)) => s1.length ≤ j ∧ (∀ v, v ∈ s1.map Prod.fst → ∃ e, e < j ∧ ed T e s = v) ∧ (∀ e, e < j → ∃ x, aget s1 (ed T e s) = some x) ∧ ∀ v x, aget s1 v = some x → x = rowI (fun h => (hs T j col s v).count h) c)
    ⟨Nat.le_refl _, fun v h => by simp at h, fun e h => absurd h (by omega), fun v x h => (by cases h)⟩ (fun i s1 x hx ⟨a1, a2, a3, a4⟩ => ?_) (fun s1 ⟨a1, a2, a3, a4⟩ => ?_)
  · obtain ⟨rfl, hi⟩ := upto_at hx
    have hi' : i < n := by omega
    rw [ed_at hi hs2, pbind]
    have mid : ∃ s6 : List (Int × List Int), ((pure (!(aget s1 (ed T i s)).isSome) : Out Bool) >>= fun c5 => if c5 = true then ((repO [0] (c : Int)) >>= fun a7 => (pure (s1, fun b => b)) >>= fun r9 => (pure (ed T i s)) >>= fun j8 => aputO r9.1 j8 a7 >>= fun l10 => pure (r9.2 l10)) else (pure s1)) = pure s6 ∧
        s6.length ≤ i + 1 ∧ (∀ v, v ∈ s6.map Prod.fst → ∃ e, e < i + 1 ∧ ed T e s = v) ∧ (∀ e, e < i + 1 → ∃ x, aget s6 (ed T e s) = some x) ∧ ∀ v x, aget s6 v = some x → x = rowI (fun h => (hs T i col s v).count h) c := by
      cases hg : aget s1 (ed T i s) with
      | some x =>
        refine ⟨s1, rfl, by omega, fun v hv => ?_, fun e he => ?_, a4⟩
        · obtain ⟨e, h1, h2⟩ := a2 v hv
          exact ⟨e, by omega, h2⟩
        · by_cases c1 : e = i
          · rw [c1]; exact ⟨x, hg⟩
          · exact a3 e (by omega)
      | none =>
        have hno : ∀ e, e < i → ed T e s ≠ ed T i s := fun e he z => by
          obtain ⟨x, hx⟩ := a3 e he
          rw [z, hg] at hx
          cases hx
        have hz : hs T i col s (ed T i s) = [] := by
          unfold hs
          rw [List.filter_eq_nil_iff.mpr fun e he => by simpa using hno e (List.mem_range.mp he)]
          rfl
        refine ⟨aput s1 (ed T i s) (List.replicate c 0), ?_, Nat.le_trans (aput_len _ _ _) (by omega), fun v hv => ?_, fun e he => ?_, fun v x hx => ?_⟩
        · show ((repO [0] (c : Int)) >>= _) = _
          rw [repO_nat hc, pbind, pbind, pbind, aputO_ok (show s1.length < 16777216 by omega), pbind]
        · rw [aput_none _ (afind_of_none hg), List.map_append] at hv
          rcases List.mem_append.mp hv with z | z
          · obtain ⟨e, h1, h2⟩ := a2 v z
            exact ⟨e, by omega, h2⟩
          · have hz2 : v = ed T i s := by simpa using z
            exact ⟨i, by omega, hz2.symm⟩
        · rw [aget_aput]
          by_cases c1 : ed T e s = ed T i s
          · rw [if_pos c1]; exact ⟨_, rfl⟩
          · rw [if_neg c1]
            exact a3 e (by
              by_cases c2 : e = i
              · exact absurd (by rw [c2]) c1
              · omega)
        · rw [aget_aput] at hx
          by_cases c1 : v = ed T i s
          · rw [if_pos c1] at hx
            rw [← Option.some.inj hx, c1, hz]
            apply List.ext_getElem?
            intro q
            by_cases hq : q < c
            · rw [List.getElem?_replicate, if_pos hq, List.getElem?_map, List.getElem?_range hq]
              rfl
            · rw [List.getElem?_eq_none (by simp; omega), List.getElem?_eq_none (by simp; omega)]
          · rw [if_neg c1] at hx
            exact a4 v x hx
    obtain ⟨s6, e6, b1, b2, b3, b4⟩ := mid
    rw [e6, pbind]
    obtain ⟨x, hx6⟩ := b3 i (by omega)
    obtain ⟨g, hg1, hg2⟩ := subD_ok (put := fun b => b) hx6
    have hxv := b4 _ _ hx6
    have ht : idx (colI n col) (i : Int) = pure ((col i : Nat) : Int) := idx_nat (by rw [List.getElem?_map, List.getElem?_range hi']; rfl)
    have hci := hcol i hi'
    have hxc : x[col i]? = some (((hs T i col s (ed T i s)).count (col i) : Nat) : Int) := by
      rw [hxv, List.getElem?_map, List.getElem?_range hci]; rfl
    refine ⟨aput s6 (ed T i s) (x.set (col i) ((((hs T i col s (ed T i s)).count (col i) : Nat) : Int) + 1)), ?_, ?_, fun v hv => ?_, fun e he => ?_, fun v y hy => ?_⟩
    · rw [hg1, pbind, ht, pbind]
      show (((idx x ((col i : Nat) : Int)) >>= _) >>= _) = _
      rw [idx_nat hxc, pbind, pbind, pbind, pbind]
      show (setO x ((col i : Nat) : Int) _ >>= fun l16 => pure (g l16)) = _
      rw [setO_nat (show col i < x.length by rw [hxv]; simp; exact hci), pbind, hg2]
    · obtain ⟨j, hj1, hj2, hj3⟩ := afind_aget hx6
      rw [← hj3, List.length_set]
      exact b1
    · obtain ⟨j, hj1, hj2, hj3⟩ := afind_aget hx6
      rw [← hj3, aput_keys_some _ hj1] at hv
      exact b2 v hv
    · rw [aget_aput]
      by_cases c1 : ed T e s = ed T i s
      · rw [if_pos c1]; exact ⟨_, rfl⟩
      · rw [if_neg c1]; exact b3 e he
    · rw [aget_aput] at hy
      by_cases c1 : v = ed T i s
      · rw [if_pos c1] at hy
        rw [← Option.some.inj hy, c1, hs_succ, if_pos rfl]
        apply List.ext_getElem?
        intro q
        by_cases hq : q < c
        · by_cases c2 : q = col i
          · subst c2
            rw [List.getElem?_set_self (by rw [hxv]; simp; exact hq), List.getElem?_map, List.getElem?_range hq]
            simp
          · rw [List.getElem?_set_ne (Ne.symm c2), hxv, List.getElem?_map, List.getElem?_map, List.getElem?_range hq]
            simp [List.count_append, List.count_singleton, Ne.symm c2]
        · rw [List.getElem?_eq_none (by rw [List.length_set, hxv]; simp; omega), List.getElem?_eq_none (by simp; omega)]
      · rw [if_neg c1] at hy
        rw [hs_succ, if_neg (Ne.symm c1)]
        exact b4 v y hy
  · rw [upto_len, hn] at a2 a3 a4
    rw [pbind]
    rcases forR_bool (bad := fun v => ¬ rowOk (fun h => (hs T n col s v).count h) c) (f := fun (s21 : Unit) (x22 : Int) =>
      (agetO s1 x22) >>= fun row =>
      (((maxL row) >>= fun t23 => (minL row) >>= fun t24 => (pure (t23 - t24) : Out Int)) >>= fun t25 => (pure (decide (1 < t25)) : Out Bool)) >>= fun c26 => if c26 = true then (
      (pure false) >>= fun r27 => (pure (Step.rt r27) : Out (Step Bool Unit)))
      else (
      pure (Step.nx ()))) (s1.map Prod.fst) (fun v hv => by
      obtain ⟨x, hx⟩ := aget_mem hv
      obtain ⟨M, m, e1, e2, e3⟩ := row_mm hc0 (fun h => (hs T n col s v).count h)
      rw [agetO_ok hx, pbind, a4 v x hx, e1, pbind, e2, pbind, pbind, pbind]
      by_cases z : 1 < M - m
      · exact .inl ⟨e3.mp z, by rw [if_pos (by simpa using z)]; rfl⟩
      · exact .inr ⟨fun w => z (e3.mpr w), by rw [if_neg (by simpa using z)]⟩) with ⟨⟨v, hv, hb⟩, e⟩ | ⟨hall, e⟩
    · rw [e, pbind]
      refine ⟨false, rfl, by simp, fun w => ?_⟩
      obtain ⟨d, hd, rfl⟩ := a2 v hv
      exact absurd (w d hd) hb
    · rw [e, pbind]
      refine ⟨true, rfl, fun _ d hd => ?_, fun _ => rfl⟩
      obtain ⟨x, hx⟩ := a3 d hd
      obtain ⟨j, _, hj, _⟩ := afind_aget hx
      exact Classical.byContradiction fun z => hall _ (List.mem_map.mpr ⟨_, List.mem_of_getElem? hj, rfl⟩) z

/-! MJ2: hues_even itself. -/
theorem aput_nd {κ α : Type} [DecidableEq κ] {a : List (κ × α)} (h : (a.map Prod.fst).Nodup) (k : κ) (x : α) : ((aput a k x).map Prod.fst).Nodup := by
  cases q : afind a k with
  | some j =>
    rw [aput_some _ q]
    have := aput_keys_some x q
    show ((a.set j (k, x)).map (·.1)).Nodup
    rw [this]
    exact h
  | none =>
    rw [aput_none _ q, List.map_append]
    refine List.nodup_append.mpr ⟨h, by simp, fun y hy z hz => ?_⟩
    have hz : z = k := by simpa using hz
    subst hz
    intro e
    subst e
    obtain ⟨w, hw⟩ := aget_mem hy
    obtain ⟨j, hj, _⟩ := afind_aget hw
    rw [q] at hj
    cases hj
theorem mem_aget {κ α : Type} [DecidableEq κ] : ∀ {a : List (κ × α)} {k : κ} {x : α}, (a.map Prod.fst).Nodup → (k, x) ∈ a → aget a k = some x
  | [], _, _, _, h => by simp at h
  | (i, y) :: r, k, x, hn, h => by
    have hn' := List.nodup_cons.mp (by simpa using hn : (i :: r.map Prod.fst).Nodup)
    unfold aget
    rcases List.mem_cons.mp h with z | z
    · cases z
      rw [if_pos rfl]
    · have hk : k ∈ r.map Prod.fst := List.mem_map.mpr ⟨_, z, rfl⟩
      rw [if_neg (fun (e : i = k) => hn'.1 (by rw [e]; exact hk))]
      exact mem_aget hn'.2 z
theorem dcO_con {α : Type} {mk : α → Out Int} {k : α → Int} {v0 : List Int} {mv : α → Out (List Int)} : ∀ (xs : List α) (acc : List (Int × List Int)), (∀ x ∈ xs, mk x = pure (k x)) → (∀ x ∈ xs, mv x = pure v0) → acc.length + xs.length < 16777216 → (acc.map Prod.fst).Nodup →
    ∃ tb, dcO mk mv xs acc = pure tb ∧ tb.length ≤ acc.length + xs.length ∧ (tb.map Prod.fst).Nodup ∧ ∀ j, aget tb j = if j ∈ xs.map k then some v0 else aget acc j
  | [], acc, _, _, _, hn => ⟨acc, rfl, Nat.le_refl _, hn, fun j => by simp⟩
  | x :: xs, acc, h1, h2, hl, hn => by
    have hl' : acc.length + (xs.length + 1) < 16777216 := hl
    have ha := aput_len acc (k x) v0
    obtain ⟨tb, e, l, n, g⟩ := dcO_con xs (aput acc (k x) v0) (fun y hy => h1 y (by simp [hy])) (fun y hy => h2 y (by simp [hy])) (by omega) (aput_nd hn _ _)
    refine ⟨tb, ?_, by simp only [List.length_cons]; omega, n, fun j => ?_⟩
    · unfold dcO
      rw [h1 x (by simp), h2 x (by simp)]
      show (if acc.length < 16777216 then dcO mk mv xs (aput acc (k x) v0) else Out.stuck) = _
      rw [if_pos (by omega), e]
    · rw [g, aget_aput]
      by_cases c : j ∈ xs.map k
      · rw [if_pos c, if_pos (by rw [List.map_cons]; exact List.mem_cons_of_mem _ c)]
      · rw [if_neg c]
        by_cases c2 : j = k x
        · rw [if_pos c2, if_pos (by rw [List.map_cons, c2]; exact List.mem_cons_self)]
        · rw [if_neg c2, if_neg (by rw [List.map_cons]; exact fun z => (List.mem_cons.mp z).elim c2 c)]
theorem ed_prs {T : List (Int × Int)} {i : Nat} (hi : i < T.length) {s : Nat} (hs : s < 2) : idx [T[i].1, T[i].2] (s : Int) = pure (ed T i s) := by
  unfold ed
  rw [List.getElem?_eq_getElem hi]
  match s, hs with
  | 0, _ => rfl
  | 1, _ => rfl
theorem endsH_ok (x : Int × Int) {s : Nat} (hs : s < 2) : idx [x.1, x.2] (s : Int) = pure (([x.1, x.2][s]?).getD 0) := by
  match s, hs with
  | 0, _ => rfl
  | 1, _ => rfl
theorem hue_side {c n : Nat} {T : List (Int × Int)} {col : Nat → Nat} {s : Nat} (hs2 : s < 2) (hn : T.length = n) (hn2 : n < 16777216) (hc0 : 0 < c) (hc : c ≤ 16777216) (hcol : ∀ e, e < n → col e < c) {P : Out (List (Int × List Int)) → Prop}
    (hP : ∀ st : List (Int × List Int), (st.map Prod.fst).Nodup → (∀ e, e < n → aget st (ed T e s) = some (rowI (fun h => (hs T n col s (ed T e s)).count h) c)) → (∀ v, v ∈ st.map Prod.fst → ∃ e, e < n ∧ ed T e s = v) → P (pure st)) :
    P (dcO (fun ends8 => idx ends8 (s : Int)) (fun _ => repO [0] (c : Int)) (prs T) [] >>= fun counts =>
      ((pure (List.zip (prs T) (colI n col))) >>= fun xs18 => forO (fun (s10 : (List (Int × (List Int)))) (x11 : (List Int) × Int) =>
      ((idx x11.1 (s : Int)) >>= fun t12 => subD (s10, fun b => b) t12) >>= fun r13 => (pure x11.2) >>= fun j14 => idx r13.1 j14 >>= fun x15 => (pure 1) >>= fun y16 => setO r13.1 j14 (x15 + y16) >>= fun l17 =>
      pure (r13.2 l17)) xs18 counts)) := by
  obtain ⟨tb, e, l, nd, g⟩ := dcO_con (mk := fun ends8 => idx ends8 (s : Int)) (mv := fun _ => repO [0] (c : Int)) (k := fun x => (x[s]?).getD 0) (v0 := List.replicate c 0) (prs T) [] (fun x hx => by
    obtain ⟨y, _, rfl⟩ := List.mem_map.mp hx
    exact endsH_ok y hs2) (fun x _ => repO_nat hc) (by simp; omega) (by simp)
  have hkey : ∀ j, j ∈ (prs T).map (fun x => (x[s]?).getD 0) ↔ ∃ e, e < n ∧ ed T e s = j := fun j => by
    rw [List.map_map]
    constructor
    · intro h
      obtain ⟨x, hx, hj⟩ := List.mem_map.mp h
      obtain ⟨i, hi, rfl⟩ := List.mem_iff_getElem.mp hx
      refine ⟨i, by omega, ?_⟩
      rw [← hj]
      unfold ed
      rw [List.getElem?_eq_getElem hi]
      match s, hs2 with
      | 0, _ => rfl
      | 1, _ => rfl
    · rintro ⟨i, hi, rfl⟩
      refine List.mem_map.mpr ⟨T[i], List.getElem_mem _, ?_⟩
      unfold ed
      rw [List.getElem?_eq_getElem (by omega)]
      match s, hs2 with
      | 0, _ => rfl
      | 1, _ => rfl
  rw [e, pbind, pbind]
  refine for_ex0 (fun j (st : List (Int × List Int)) => (st.map Prod.fst).Nodup ∧ (∀ e, e < n → aget st (ed T e s) = some (rowI (fun h => (hs T j col s (ed T e s)).count h) c)) ∧ ∀ v, v ∈ st.map Prod.fst → ∃ e, e < n ∧ ed T e s = v) ⟨nd, fun d hd => ?_, fun v hv => ?_⟩ (fun i st x hx ⟨b1, b2, b3⟩ => ?_) (fun st ⟨b1, b2, b3⟩ => ?_)
  · rw [g, if_pos ((hkey _).mpr ⟨d, hd, rfl⟩)]
    congr 1
    apply List.ext_getElem?
    intro q
    by_cases hq : q < c
    · rw [List.getElem?_replicate, if_pos hq, List.getElem?_map, List.getElem?_range hq]
      rfl
    · rw [List.getElem?_eq_none (by simp; omega), List.getElem?_eq_none (by simp; omega)]
  · obtain ⟨w, hw⟩ := aget_mem hv
    rw [g] at hw
    by_cases c1 : v ∈ (prs T).map (fun x => (x[s]?).getD 0)
    · exact (hkey v).mp c1
    · rw [if_neg c1] at hw
      cases hw
  · obtain ⟨x1, x2⟩ := List.getElem?_zip_eq_some.mp hx
    have hi : i < n := by
      have := (List.getElem?_eq_some_iff.mp x1).1
      simp at this
      omega
    have y1 : x.1 = [T[i].1, T[i].2] := by
      rw [List.getElem?_map, List.getElem?_eq_getElem (by omega)] at x1
      exact (Option.some.inj x1).symm
    have y2 : x.2 = ((col i : Nat) : Int) := by
      rw [List.getElem?_map, List.getElem?_range hi] at x2
      exact (Option.some.inj x2).symm
    have hx6 := b2 i hi
    obtain ⟨gg, hg1, hg2⟩ := subD_ok (put := fun b => b) hx6
    have hci := hcol i hi
    have hxc : (rowI (fun h => (hs T i col s (ed T i s)).count h) c)[col i]? = some (((hs T i col s (ed T i s)).count (col i) : Nat) : Int) := by
      rw [List.getElem?_map, List.getElem?_range hci]; rfl
    refine ⟨aput st (ed T i s) ((rowI (fun h => (hs T i col s (ed T i s)).count h) c).set (col i) ((((hs T i col s (ed T i s)).count (col i) : Nat) : Int) + 1)), ?_, aput_nd b1 _ _, fun d hd => ?_, fun v hv => ?_⟩
    · rw [y1, y2, ed_prs (by omega) hs2, pbind, hg1, pbind, pbind, idx_nat hxc, pbind, pbind]
      rw [setO_nat (by simp; exact hci), pbind]
      exact congrArg pure (hg2 _)
    · rw [aget_aput]
      by_cases c1 : ed T d s = ed T i s
      · rw [if_pos c1, c1, hs_succ, if_pos rfl]
        congr 1
        apply List.ext_getElem?
        intro q
        by_cases hq : q < c
        · by_cases c2 : q = col i
          · subst c2
            rw [List.getElem?_set_self (by simp; exact hq), List.getElem?_map, List.getElem?_range hq]
            simp
          · rw [List.getElem?_set_ne (Ne.symm c2), List.getElem?_map, List.getElem?_map, List.getElem?_range hq]
            simp [List.count_append, List.count_singleton, Ne.symm c2]
        · rw [List.getElem?_eq_none (by rw [List.length_set]; simp; omega), List.getElem?_eq_none (by simp; omega)]
      · rw [if_neg c1, hs_succ, if_neg (Ne.symm c1)]
        exact b2 d hd
    · obtain ⟨j, hj1, hj2, hj3⟩ := afind_aget hx6
      rw [← hj3, aput_keys_some _ hj1] at hv
      exact b3 v hv
  · have hl : (List.zip (prs T) (colI n col)).length = n := by
      rw [List.length_zip, List.length_map, List.length_map, List.length_range]
      omega
    rw [hl] at b2
    exact hP st b1 b2 b3
theorem hues_ok {c n : Nat} {T : List (Int × Int)} {col : Nat → Nat} (hn : T.length = n) (hn2 : n < 16777216) (hc0 : 0 < c) (hc : c ≤ 16777216) (hcol : ∀ e, e < n → col e < c) :
    ∃ b, m_hues_even (prs T) (c : Int) (colI n col) = pure b ∧ (b = true ↔ Ev T n col c 0 ∧ Ev T n col c 1) := by
  rw [m_hues_even_eq]
  unfold b_hues_even
  have e0 : mapO (fun hue1 => (if decide (0 ≤ hue1) = true then (pure (decide (hue1 < (c : Int))) : Out Bool) else pure false) >>= fun t2 => (pure (!t2) : Out Bool)) (colI n col) = pure ((colI n col).map fun _ => false) := mapO_ok _ fun x hx => by
    obtain ⟨e, he, rfl⟩ := List.mem_map.mp hx
    have := hcol e (List.mem_range.mp he)
    rw [if_pos (by simp), pbind, decide_eq_true (by omega)]
    rfl
  have ea : (((colI n col).map fun _ => false).any id) = false := by
    rw [List.any_eq_false]
    intro x hx
    obtain ⟨_, _, rfl⟩ := List.mem_map.mp hx
    simp
  rw [e0, pbind, ea, pbind, if_neg (by decide), pbind]
  rcases forR_bool (bad := fun x : Int => ¬ Ev T n col c x.toNat) (f := fun (s6 : Unit) (x7 : Int) =>
      ((pure (prs T)) >>= fun xs9 => dcO (fun ends8 => idx ends8 x7) (fun ends8 => repO [0] (c : Int)) xs9 []) >>= fun counts =>
      ((pure (List.zip (prs T) (colI n col))) >>= fun xs18 => forO (fun (s10 : (List (Int × (List Int)))) (x11 : (List Int) × Int) =>
      ((idx x11.1 x7) >>= fun t12 => subD (s10, fun b => b) t12) >>= fun r13 => (pure x11.2) >>= fun j14 => idx r13.1 j14 >>= fun x15 => (pure 1) >>= fun y16 => setO r13.1 j14 (x15 + y16) >>= fun l17 =>
      pure (r13.2 l17)) xs18 counts) >>= fun s19 =>
      ((mapO (fun row20 => ((maxL row20) >>= fun t21 => (minL row20) >>= fun t22 => (pure (t21 - t22) : Out Int)) >>= fun t23 => (pure (decide (1 < t23)) : Out Bool)) (s19.map Prod.snd)) >>= fun t25 => (pure (t25.any id) : Out Bool)) >>= fun c26 => if c26 = true then (
      (pure false) >>= fun r27 => (pure (Step.rt r27) : Out (Step Bool Unit)))
      else (
      pure (Step.nx ()))) (upto 2) (fun x hx => by
    obtain ⟨p, q⟩ := upto_mem.mp hx
    obtain ⟨s, rfl⟩ := Int.eq_ofNat_of_zero_le p
    have hs2 : s < 2 := by omega
    rw [pbind]
    have assoc : ∀ {α β γ : Type} (m : Out α) (f : α → Out β) (g : β → Out γ), (m >>= fun a => f a >>= g) = ((m >>= f) >>= g) := fun m f g => by cases m <;> rfl
    rw [assoc]
    obtain ⟨st, est, nd, g1, g2⟩ := hue_side (P := fun o => ∃ st : List (Int × List Int), o = pure st ∧ (st.map Prod.fst).Nodup ∧ (∀ e, e < n → aget st (ed T e s) = some (rowI (fun h => (hs T n col s (ed T e s)).count h) c)) ∧ (∀ v, v ∈ st.map Prod.fst → ∃ e, e < n ∧ ed T e s = v)) hs2 hn hn2 hc0 hc hcol fun st nd g1 g2 => ⟨st, rfl, nd, g1, g2⟩
    rw [est, pbind]
    show (¬ Ev T n col c s ∧ _) ∨ (¬ ¬ Ev T n col c s ∧ _)
    have rows : ∀ row ∈ st.map Prod.snd, ∃ e, e < n ∧ row = rowI (fun h => (hs T n col s (ed T e s)).count h) c := fun row hr => by
      obtain ⟨⟨v, r⟩, hp, rfl⟩ := List.mem_map.mp hr
      obtain ⟨e, he, hv⟩ := g2 v (List.mem_map.mpr ⟨_, hp, rfl⟩)
      have h1 := g1 e he
      rw [hv, mem_aget nd hp] at h1
      exact ⟨e, he, by rw [hv]; exact Option.some.inj h1⟩
    have judge : ∀ row ∈ st.map Prod.snd, ∃ y : Bool, (((maxL row) >>= fun t21 => (minL row) >>= fun t22 => (pure (t21 - t22) : Out Int)) >>= fun t23 => (pure (decide (1 < t23)) : Out Bool)) = pure y := fun row hr => by
      obtain ⟨e, he, rfl⟩ := rows row hr
      obtain ⟨M, m, e1, e2, _⟩ := row_mm hc0 (fun h => (hs T n col s (ed T e s)).count h)
      exact ⟨_, by rw [e1, pbind, e2, pbind, pbind]⟩
    obtain ⟨ys, ey, yl, hy⟩ := mapO_ex _ judge
    rw [ey, pbind, pbind]
    have any_iff : ys.any id = true ↔ ¬ Ev T n col c s := by
      rw [List.any_eq_true]
      constructor
      · rintro ⟨y, hym, hyt⟩ w
        obtain ⟨i, hi⟩ := List.mem_iff_getElem?.mp hym
        have hi2 := (List.getElem?_eq_some_iff.mp hi).1
        have hx2 : (st.map Prod.snd)[i]? = some ((st.map Prod.snd)[i]'(by omega)) := List.getElem?_eq_getElem (by omega)
        have h3 := hy i _ _ hx2 hi
        obtain ⟨e, he, er⟩ := rows _ (List.mem_of_getElem? hx2)
        rw [er] at h3
        obtain ⟨M, m, e1, e2, e3⟩ := row_mm hc0 (fun h => (hs T n col s (ed T e s)).count h)
        rw [e1, pbind, e2, pbind, pbind] at h3
        cases h3
        exact e3.mp (by simpa using hyt) (w e he)
      · intro w
        refine Classical.byContradiction fun z => w fun e he => ?_
        have h1 := g1 e he
        obtain ⟨j, _, hj, _⟩ := afind_aget h1
        have hj2 : (st.map Prod.snd)[j]? = some (rowI (fun h => (hs T n col s (ed T e s)).count h) c) := by rw [List.getElem?_map, hj]; rfl
        have hj3 := (List.getElem?_eq_some_iff.mp hj2).1
        have hy2 : ys[j]? = some (ys[j]'(by omega)) := List.getElem?_eq_getElem (by omega)
        have h3 := hy j _ _ hj2 hy2
        obtain ⟨M, m, e1, e2, e3⟩ := row_mm hc0 (fun h => (hs T n col s (ed T e s)).count h)
        rw [e1, pbind, e2, pbind, pbind] at h3
        refine Classical.byContradiction fun bad => z ⟨_, List.mem_of_getElem? hy2, ?_⟩
        have h4 := e3.mpr bad
        have h5 : decide (1 < M - m) = ys[j]'(by omega) := by injection h3
        rw [← h5]
        simpa using h4
    by_cases w : Ev T n col c s
    · refine .inr ⟨fun z => z w, ?_⟩
      rw [if_neg (fun z => any_iff.mp z w)]
    · refine .inl ⟨w, ?_⟩
      rw [if_pos (any_iff.mpr w)]
      rfl) with ⟨⟨x, hx, hb⟩, e⟩ | ⟨hall, e⟩
  · rw [e, pbind]
    refine ⟨false, rfl, by simp, fun w => ?_⟩
    obtain ⟨p, q⟩ := upto_mem.mp hx
    have : x = 0 ∨ x = 1 := by omega
    rcases this with z | z <;> subst z
    · exact absurd w.1 hb
    · exact absurd w.2 hb
  · rw [e, pbind]
    refine ⟨true, rfl, fun _ => ⟨?_, ?_⟩, fun _ => rfl⟩
    · exact Classical.byContradiction fun z => hall 0 (upto_mem.mpr ⟨by omega, by omega⟩) z
    · exact Classical.byContradiction fun z => hall 1 (upto_mem.mpr ⟨by omega, by omega⟩) z

/-! the law's own random draws: m_law_cell, m_law_digits -/
theorem cell_ok (ns : List Int) (k : Int) (h0 : 0 ≤ k) (h1 : k < 1000000) : ∃ c, m_law_cell ns k = pure c := by
  rw [m_law_cell_eq]
  unfold b_law_cell
  rw [pbind]
  by_cases c : k < (ns.length : Int)
  · rw [if_pos (decide_eq_true c)]
    obtain ⟨a, e, _⟩ := idx_lt h0 c
    exact ⟨a, e⟩
  · rw [if_neg (by rw [decide_eq_false c]; exact Bool.false_ne_true), pbind, pbind]
    have h := forO_foldl (f := fun (s2 : Int) (x3 : Int) => (pure (((s2 * 31) + (x3 % 1000003)) % 1000003) : Out Int) >>= fun seed => pure seed) (g := fun s x => ((s * 31) + (x % 1000003)) % 1000003) ns 17 (fun _ _ _ => rfl)
    rw [h, pbind, mulO_r (by omega) (by omega)]
    exact ⟨_, rfl⟩
theorem digits_ok (cell : Int) (sizes : List Int) (hs : ∀ s ∈ sizes, 0 < s ∧ s < 1073741824) (hl : sizes.length < 16777216) : ∃ L, m_law_digits cell sizes = pure L ∧ L.length = sizes.length ∧ ∀ (i : Nat) d s, L[i]? = some d → sizes[i]? = some s → 0 ≤ d ∧ d < s := by
  rw [m_law_digits_eq]
  unfold b_law_digits
  rw [pbind, pbind, pbind]
  have hif : ∀ (c : Bool) (a b : Int), (if c = true then ((pure a : Out Int) >>= fun r => pure r) else pure b) = pure (if c = true then a else b) := fun c a b => by cases c <;> rfl
  rw [hif, pbind, pbind, pbind]
  generalize (if decide (1000000000000000000 ≤ cell) = true then _ else (0 : Int)) = r
  have app : ∀ (L : List Int) (x : Int), L.length < 16777216 → appO L x = pure (L ++ [x]) := fun L x h => appO_ok h
  obtain ⟨s', e, h1, h2⟩ := forO_inv0 (f := fun (s3 : Int × Int × (List Int)) (x4 : Int) =>
    (pure ((((s3.1 * 48271) + (974711 * x4)) + 12345) % 2147483647)) >>= fun seed =>
    (((mulO seed ((seed / 65537) + 3)) >>= fun t5 => pure t5) >>= fun t6 => pure (t6 % 2147483629)) >>= fun twice =>
    (pure (decide (0 < s3.2.1))) >>= fun c7 => if c7 = true then (
    ((idx sizes x4) >>= fun t8 => modO s3.2.1 t8) >>= fun a9 => appO s3.2.2 a9 >>= fun row =>
    ((idx sizes x4) >>= fun t10 => divO s3.2.1 t10) >>= fun rest =>
    pure (seed, rest, row))
    else (
    ((idx sizes x4) >>= fun t11 => modO (twice / 19) t11) >>= fun a12 => appO s3.2.2 a12 >>= fun row =>
    pure (seed, s3.2.1, row)))
    (fun i s => s.2.2.length = i ∧ ∀ (j : Nat) d z, s.2.2[j]? = some d → sizes[j]? = some z → 0 ≤ d ∧ d < z) (upto sizes.length) (cell % 2147483629, r, []) ⟨rfl, fun j d z h => by simp at h⟩ (fun i s x hx ⟨hl1, hd⟩ => by
      obtain ⟨rfl, hi⟩ := upto_at hx
      have hz : sizes[i]? = some sizes[i] := List.getElem?_eq_getElem hi
      obtain ⟨z0, z1⟩ := hs sizes[i] (List.getElem_mem hi)
      have grow : ∀ v : Int, ∀ (j : Nat) d z, (s.2.2 ++ [v % sizes[i]])[j]? = some d → sizes[j]? = some z → 0 ≤ d ∧ d < z := fun v j d z h1 h2 => by
        by_cases c : j < s.2.2.length
        · rw [List.getElem?_append_left c] at h1
          exact hd j d z h1 h2
        · rw [List.getElem?_append_right (by omega)] at h1
          have ej : j = i := by
            have := (List.getElem?_eq_some_iff.mp h1).1
            simp at this
            omega
          subst ej
          rw [hl1, Nat.sub_self] at h1
          simp at h1
          rw [hz] at h2
          cases h2
          subst h1
          exact ⟨Int.emod_nonneg _ (by omega), Int.emod_lt_of_pos _ z0⟩
      rw [pbind]
      generalize hseed : ((((s.1 * 48271) + (974711 * (i : Int))) + 12345) % 2147483647) = seed
      have s0 : 0 ≤ seed := by rw [← hseed]; exact Int.emod_nonneg _ (by omega)
      have s1 : seed < 2147483647 := by rw [← hseed]; exact Int.emod_lt_of_pos _ (by omega)
      rw [mulO_r (by omega) (by omega), pbind, pbind, pbind, pbind]
      by_cases c : 0 < s.2.1
      · rw [if_pos (decide_eq_true c), idx_nat hz, pbind, modO_ok z0, pbind, app _ _ (by omega), pbind, pbind, divO_ok z0 z1, pbind]
        exact ⟨_, rfl, by simp [hl1], grow _⟩
      · rw [if_neg (by rw [decide_eq_false c]; exact Bool.false_ne_true), idx_nat hz, pbind, modO_ok z0, pbind, app _ _ (by omega), pbind]
        exact ⟨_, rfl, by simp [hl1], grow _⟩)
  refine ⟨s'.2.2, ?_, by rw [h1, upto_len], h2⟩
  rw [e, pbind]

/-! MKg: digits, numbers of nodes (the same in k18, k19). -/
def Dig (L sizes : List Int) : Prop := L.length = sizes.length ∧ ∀ (i : Nat) d s, L[i]? = some d → sizes[i]? = some s → 0 ≤ d ∧ d < s
theorem Dig.get {L sizes : List Int} (h : Dig L sizes) (i : Nat) {s : Int} (hs : sizes[i]? = some s) : ∃ d, L[i]? = some d ∧ idx L (i : Int) = pure d ∧ 0 ≤ d ∧ d < s := by
  have hi := (List.getElem?_eq_some_iff.mp hs).1
  have hl : L[i]? = some (L[i]'(by rw [h.1]; exact hi)) := List.getElem?_eq_getElem (by rw [h.1]; exact hi)
  exact ⟨_, hl, idx_nat hl, h.2 i _ s hl hs⟩
theorem number_ok {base step st index : Int} (h : idx [1, 7, 999, 333, 77, 501] step = pure st) (h1 : 0 < st) (h2 : st < 1000) : m_law_number base step index = pure ((base + index * st) % 1000) := by
  rw [m_law_number_eq]
  unfold b_law_number
  rw [h, pbind, mulO_r (by omega) (by omega), pbind, pbind, pbind]
theorem step_ok {s : Int} (h0 : 0 ≤ s) (h1 : s < 6) : ∃ st : Int, idx [1, 7, 999, 333, 77, 501] s = pure st ∧ (st = 1 ∨ st = 7 ∨ st = 999 ∨ st = 333 ∨ st = 77 ∨ st = 501) := by
  have : s = 0 ∨ s = 1 ∨ s = 2 ∨ s = 3 ∨ s = 4 ∨ s = 5 := by omega
  rcases this with h | h | h | h | h | h <;> subst h
  · exact ⟨1, rfl, by omega⟩
  · exact ⟨7, rfl, by omega⟩
  · exact ⟨999, rfl, by omega⟩
  · exact ⟨333, rfl, by omega⟩
  · exact ⟨77, rfl, by omega⟩
  · exact ⟨501, rfl, by omega⟩
theorem num_inj {a x y st : Int} (hs : st = 1 ∨ st = 7 ∨ st = 999 ∨ st = 333 ∨ st = 77 ∨ st = 501) (hx : 0 ≤ x) (hx2 : x < 1000) (hy : 0 ≤ y) (hy2 : y < 1000) (h : (a + x * st) % 1000 = (a + y * st) % 1000) : x = y := by
  rcases hs with rfl | rfl | rfl | rfl | rfl | rfl <;> omega
def kf (factor k : Int) : Int := ((k + 1) * factor) % 1000003 * 4096 + k
theorem kf_mod {factor k : Int} (h0 : 0 ≤ k) (h1 : k < 4096) : kf factor k % 4096 = k := by
  unfold kf
  omega
theorem upto_nd (n : Nat) : (upto n).Nodup := by
  unfold upto
  rw [List.nodup_iff_pairwise_ne, List.pairwise_map]
  exact List.pairwise_lt_range.imp fun h => by omega
def sdv (x : Int × Int) (s : Nat) : Int := if s = 0 then x.1 else x.2
theorem ed_sdv {T : List (Int × Int)} {e s : Nat} (he : e < T.length) : ed T e s = sdv T[e] s := by
  unfold ed sdv
  rw [List.getElem?_eq_getElem he]
  rfl

/-! MJ3: hues that take turns. -/
def cyc (c p a L h : Nat) : Nat := ((List.range L).filter fun i => decide ((a + i + p) % c = h)).length
theorem cyc_succ (c p a L h : Nat) : cyc c p a (L + 1) h = cyc c p a L h + if (a + L + p) % c = h then 1 else 0 := by
  unfold cyc
  rw [List.range_succ, List.filter_append, List.length_append]
  by_cases z : (a + L + p) % c = h
  · rw [List.filter_cons_of_pos (by simpa using z), if_pos z]
    rfl
  · rw [List.filter_cons_of_neg (by simpa using z), if_neg z]
    rfl
theorem ediv_step {y c : Int} (hc : 0 < c) : y / c = (y - 1) / c + if y % c = 0 then 1 else 0 := by
  have h1 := Int.emod_add_mul_ediv y c
  have h2 := Int.emod_nonneg y (show c ≠ 0 by omega)
  have h3 := Int.emod_lt_of_pos y hc
  by_cases z : y % c = 0
  · rw [if_pos z]
    have : (y - 1) / c = y / c - 1 := ((Int.ediv_emod_unique (r := c - 1) hc).mpr ⟨by rw [Int.mul_sub]; omega, by omega, by omega⟩).1
    omega
  · rw [if_neg z]
    have : (y - 1) / c = y / c := ((Int.ediv_emod_unique (r := y % c - 1) hc).mpr ⟨by omega, by omega, by omega⟩).1
    omega
theorem cyc_eq {c p a h : Nat} (hc : 0 < c) (hh : h < c) : ∀ L : Nat, ((cyc c p a L h : Nat) : Int) = ((a : Int) + p - 1 - h + L) / c - ((a : Int) + p - 1 - h) / c
  | 0 => by
    unfold cyc
    simp
  | L + 1 => by
    rw [cyc_succ, Int.natCast_add, cyc_eq hc hh L]
    have e := ediv_step (y := (a : Int) + p - 1 - h + ((L + 1 : Nat) : Int)) (c := (c : Int)) (by omega)
    have e2 : (a : Int) + p - 1 - h + ((L + 1 : Nat) : Int) - 1 = (a : Int) + p - 1 - h + (L : Int) := by omega
    rw [e2] at e
    rw [e]
    have iff : ((a + L + p) % c = h) ↔ ((a : Int) + p - 1 - h + ((L + 1 : Nat) : Int)) % (c : Int) = 0 := by
      have e3 : (a : Int) + p - 1 - h + ((L + 1 : Nat) : Int) = (((a + L + p : Nat) : Int)) - (h : Int) := by omega
      rw [e3, ← Int.emod_eq_emod_iff_emod_sub_eq_zero, Int.emod_eq_of_lt (a := (h : Int)) (by omega) (by omega)]
      rw [← Int.natCast_emod]
      omega
    by_cases z : (a + L + p) % c = h
    · rw [if_pos z, if_pos (iff.mp z)]
      omega
    · rw [if_neg z, if_neg (fun w => z (iff.mpr w))]
      omega
theorem cyc_bal {c p a L h h' : Nat} (hc : 0 < c) (hh : h < c) (hh' : h' < c) : cyc c p a L h ≤ cyc c p a L h' + 1 := by
  have e1 := cyc_eq (p := p) (a := a) hc hh L
  have e2 := cyc_eq (p := p) (a := a) hc hh' L
  have hc' : (0 : Int) < c := by omega
  generalize hx : (a : Int) + p - 1 - h = x at e1
  generalize hx' : (a : Int) + p - 1 - h' = x' at e2
  have a1 := Int.emod_add_mul_ediv (x + L) c
  have a2 := Int.emod_add_mul_ediv x c
  have a3 := Int.emod_add_mul_ediv (x' + L) c
  have a4 := Int.emod_add_mul_ediv x' c
  have b1 := Int.emod_nonneg (x + L) (show (c : Int) ≠ 0 by omega)
  have b2 := Int.emod_lt_of_pos x hc'
  have b3 := Int.emod_lt_of_pos (x' + L) hc'
  have b4 := Int.emod_nonneg x' (show (c : Int) ≠ 0 by omega)
  refine Classical.byContradiction fun z => ?_
  have z1 : 2 ≤ ((cyc c p a L h : Nat) : Int) - ((cyc c p a L h' : Nat) : Int) := by omega
  rw [e1, e2] at z1
  have z2 := Int.mul_le_mul_of_nonneg_left z1 (Int.le_of_lt hc')
  rw [Int.mul_sub, Int.mul_sub, Int.mul_sub] at z2
  omega
theorem cyc_full {c p a h : Nat} (hc : 0 < c) (hh : h < c) : cyc c p a c h = 1 := by
  have e := cyc_eq (p := p) (a := a) hc hh c
  have : ((a : Int) + p - 1 - h + (c : Int)) / c = ((a : Int) + p - 1 - h) / c + 1 := by
    rw [Int.add_ediv_of_dvd_right (Int.dvd_refl _), Int.ediv_self (by omega)]
  omega
/-! ### edges with their hues -/
abbrev EH := (Int × Int) × Int
def cntZ (Z : List EH) (s : Nat) (v h : Int) : Nat := Z.countP fun z => decide (sdv z.1 s = v) && decide (z.2 = h)
theorem cntZ_app (Z W : List EH) (s : Nat) (v h : Int) : cntZ (Z ++ W) s v h = cntZ Z s v h + cntZ W s v h := List.countP_append
theorem cntZ_zero {Z : List EH} {s : Nat} {v h : Int} (hz : ∀ z ∈ Z, sdv z.1 s ≠ v) : cntZ Z s v h = 0 := by
  unfold cntZ
  rw [List.countP_eq_zero]
  intro z hm
  simp [hz z hm]
/-- all hues below c stand alike often, but for one, at each node -/
def Bal (Z : List EH) (c : Nat) : Prop := ∀ (s : Nat) (v : Int) (h h' : Nat), s < 2 → h < c → h' < c → cntZ Z s v h ≤ cntZ Z s v h' + 1
/-- nodes from lo on and below hi -/
def In (Z : List EH) (a0 a1 b0 b1 : Int) (c : Nat) : Prop := ∀ z ∈ Z, a0 ≤ z.1.1 ∧ z.1.1 < a1 ∧ b0 ≤ z.1.2 ∧ z.1.2 < b1 ∧ 0 ≤ z.2 ∧ z.2 < c
theorem Bal.app {Z W : List EH} {c : Nat} {a0 a1 a2 b0 b1 b2 : Int} (h1 : Bal Z c) (h2 : Bal W c) (i1 : In Z a0 a1 b0 b1 c) (i2 : In W a1 a2 b1 b2 c) : Bal (Z ++ W) c := fun s v h h' hs2 hh hh' => by
  have k1 := h1 s v h h' hs2 hh hh'
  have k2 := h2 s v h h' hs2 hh hh'
  rw [cntZ_app, cntZ_app]
  match s, hs2 with
  | 0, _ =>
    by_cases q : v < a1
    · have e : ∀ x : Int, cntZ W 0 v x = 0 := fun x => cntZ_zero fun z hz w => by
        have := i2 z hz
        have w : z.1.1 = v := w
        omega
      rw [e, e]
      omega
    · have e : ∀ x : Int, cntZ Z 0 v x = 0 := fun x => cntZ_zero fun z hz w => by
        have := i1 z hz
        have w : z.1.1 = v := w
        omega
      rw [e, e]
      omega
  | 1, _ =>
    by_cases q : v < b1
    · have e : ∀ x : Int, cntZ W 1 v x = 0 := fun x => cntZ_zero fun z hz w => by
        have := i2 z hz
        have w : z.1.2 = v := w
        omega
      rw [e, e]
      omega
    · have e : ∀ x : Int, cntZ Z 1 v x = 0 := fun x => cntZ_zero fun z hz w => by
        have := i1 z hz
        have w : z.1.2 = v := w
        omega
      rw [e, e]
      omega
theorem In.app {Z W : List EH} {c : Nat} {a0 a1 a2 b0 b1 b2 : Int} (i1 : In Z a0 a1 b0 b1 c) (i2 : In W a1 a2 b1 b2 c) (ha : a0 ≤ a1) (hb : b0 ≤ b1) (ha2 : a1 ≤ a2) (hb2 : b1 ≤ b2) : In (Z ++ W) a0 a2 b0 b2 c := fun z hz => by
  rcases List.mem_append.mp hz with q | q
  · have := i1 z q; omega
  · have := i2 z q; omega
/-! ### a block of maps -/
def rowM (a b : Int) (m sh : Nat) (hue : Int) : List EH := (List.range m).map fun (k : Nat) => ((a + (k : Int), b + (((k + sh) % m : Nat) : Int)), hue)
def blkM (a b : Int) (m c p S : Nat) : List EH := (List.range S).flatMap fun sh => rowM a b m sh (((sh + p) % c : Nat) : Int)
theorem count_one {m : Nat} {f : Nat → Nat} {j : Nat} : (List.range m).countP (fun k => decide (f k = j)) = ((List.range m).filter fun k => decide (f k = j)).length := List.countP_eq_length_filter
theorem rowM_cnt {a b : Int} {m sh : Nat} {hue : Int} (hm : 0 < m) {s : Nat} (hs2 : s < 2) (v h : Int) : cntZ (rowM a b m sh hue) s v h = if hue = h then cntZ (rowM a b m 0 0) s v 0 else 0 := by
  unfold cntZ rowM
  rw [List.countP_map, List.countP_map]
  by_cases z : hue = h
  · rw [if_pos z]
    subst z
    match s, hs2 with
    | 0, _ =>
      refine List.countP_congr fun k _ => ?_
      simp [sdv]
    | 1, _ =>
      have f1 : ∀ (q : Nat), (List.range m).countP (fun k => decide (b + (((k + q) % m : Nat) : Int) = v)) = if b ≤ v ∧ v < b + m then 1 else 0 := fun q => by
        by_cases w : b ≤ v ∧ v < b + m
        · rw [if_pos w]
          have := cyc_full (p := q) (a := 0) hm (show (v - b).toNat < m by omega)
          unfold cyc at this
          rw [List.countP_eq_length_filter]
          rw [← this]
          congr 1
          refine List.filter_congr fun k _ => ?_
          refine decide_eq_decide.mpr ?_
          rw [Nat.zero_add]
          omega
        · rw [if_neg w, List.countP_eq_zero]
          intro k _
          have := Nat.mod_lt (k + q) hm
          exact fun hh => absurd (of_decide_eq_true hh) (by omega)
      have g1 : (List.range m).countP ((fun (z : EH) => decide (sdv z.1 1 = v) && decide (z.2 = hue)) ∘ fun (k : Nat) => ((a + (k : Int), b + (((k + sh) % m : Nat) : Int)), hue)) = (List.range m).countP (fun k => decide (b + (((k + sh) % m : Nat) : Int) = v)) := List.countP_congr fun k _ => by simp [sdv]
      have g2 : (List.range m).countP ((fun (z : EH) => decide (sdv z.1 1 = v) && decide (z.2 = 0)) ∘ fun (k : Nat) => ((a + (k : Int), b + (((k + 0) % m : Nat) : Int)), (0 : Int))) = (List.range m).countP (fun k => decide (b + (((k + 0) % m : Nat) : Int) = v)) := List.countP_congr fun k _ => by simp [sdv]
      rw [g1, g2, f1, f1]
  · rw [if_neg z, List.countP_eq_zero]
    intro k _
    simp [z]
theorem rowM_le {a b : Int} {m : Nat} (hm : 0 < m) {s : Nat} (hs2 : s < 2) (v : Int) : cntZ (rowM a b m 0 0) s v 0 ≤ 1 := by
  have f1 : ∀ (y : Int), (List.range m).countP (fun k => decide (y + ((k : Nat) : Int) = v)) ≤ 1 := fun y => by
    have h2 := (List.nodup_iff_count.mp (List.nodup_range (n := m))) (v - y).toNat
    refine Nat.le_trans (List.countP_mono_left fun k _ hk => ?_) h2
    have : y + (k : Int) = v := by simpa using hk
    simp
    omega
  unfold cntZ rowM
  rw [List.countP_map]
  match s, hs2 with
  | 0, _ =>
    refine Nat.le_trans (Nat.le_of_eq (List.countP_congr fun k _ => ?_)) (f1 a)
    simp [sdv]
  | 1, _ =>
    refine Nat.le_trans (Nat.le_of_eq (List.countP_congr fun k hk => ?_)) (f1 b)
    have := List.mem_range.mp hk
    simp only [Function.comp, sdv, Nat.add_zero, Nat.mod_eq_of_lt this]
    simp
theorem blkM_cnt {a b : Int} {m c p : Nat} (hm : 0 < m) {s : Nat} (hs2 : s < 2) (v : Int) (h : Nat) : ∀ S, cntZ (blkM a b m c p S) s v h = cyc c p 0 S h * cntZ (rowM a b m 0 0) s v 0
  | 0 => by unfold blkM cyc; simp [cntZ]
  | S + 1 => by
    have e : blkM a b m c p (S + 1) = blkM a b m c p S ++ rowM a b m S (((S + p) % c : Nat) : Int) := by
      unfold blkM
      rw [List.range_succ, List.flatMap_append]
      simp
    rw [e, cntZ_app, blkM_cnt hm hs2 v h S, rowM_cnt (sh := S) (hue := (((S + p) % c : Nat) : Int)) hm hs2, cyc_succ, Nat.zero_add, Nat.add_mul]
    by_cases z : (S + p) % c = h
    · rw [if_pos (by omega), if_pos z, Nat.one_mul]
    · rw [if_neg (by omega), if_neg z, Nat.zero_mul]
theorem blkM_bal {a b : Int} {m c p S : Nat} (hm : 0 < m) (hc : 0 < c) : Bal (blkM a b m c p S) c := fun s v h h' hs2 hh hh' => by
  rw [blkM_cnt hm hs2, blkM_cnt hm hs2]
  have k := cyc_bal (p := p) (a := 0) (L := S) hc hh hh'
  have d := rowM_le (a := a) (b := b) hm hs2 v
  have : cntZ (rowM a b m 0 0) s v 0 = 0 ∨ cntZ (rowM a b m 0 0) s v 0 = 1 := by omega
  rcases this with z | z <;> rw [z] <;> omega
theorem blkM_in {a b : Int} {m c p S : Nat} (hc : 0 < c) : In (blkM a b m c p S) a (a + m) b (b + m) c := fun z hz => by
  obtain ⟨sh, _, h2⟩ := List.mem_flatMap.mp hz
  obtain ⟨k, hk, rfl⟩ := List.mem_map.mp h2
  have hk := List.mem_range.mp hk
  have h3 := Nat.mod_lt (k + sh) (show 0 < m by omega)
  have h4 := Nat.mod_lt (sh + p) hc
  show a ≤ a + (k : Int) ∧ a + (k : Int) < a + m ∧ b ≤ b + (((k + sh) % m : Nat) : Int) ∧ b + (((k + sh) % m : Nat) : Int) < b + m ∧ 0 ≤ (((sh + p) % c : Nat) : Int) ∧ (((sh + p) % c : Nat) : Int) < c
  omega

/-! MJ4: a star; what the law builds is even. -/
theorem div_at {k t j : Nat} (ht : 0 < t) : k / t = j ↔ j * t ≤ k ∧ k < j * t + t := by
  have h1 := Nat.le_div_iff_mul_le ht (x := j) (y := k)
  have h2 := Nat.div_lt_iff_lt_mul ht (x := k) (y := j + 1)
  rw [Nat.add_mul, Nat.one_mul] at h2
  constructor
  · intro e
    exact ⟨h1.mp (by omega), h2.mp (by omega)⟩
  · rintro ⟨a, b⟩
    have := h1.mpr a
    have := h2.mpr b
    omega
theorem star_c {c p h : Nat} : ∀ n, (List.range n).countP (fun k => decide ((k + p) % c = h)) = cyc c p 0 n h := fun n => by
  unfold cyc
  rw [List.countP_eq_length_filter]
  congr 1
  refine List.filter_congr fun k _ => ?_
  rw [Nat.zero_add]
theorem star_o {c p h t j : Nat} (ht : 0 < t) : ∀ n, (List.range n).countP (fun k => decide (k / t = j) && decide ((k + p) % c = h)) = cyc c p (j * t) (min t (n - j * t)) h
  | 0 => by simp [cyc]
  | n + 1 => by
    rw [List.range_succ, List.countP_append, star_o ht n, List.countP_singleton]
    by_cases z : n / t = j
    · obtain ⟨z1, z2⟩ := (div_at ht).mp z
      have e1 : min t (n + 1 - j * t) = min t (n - j * t) + 1 := by omega
      have e2 : j * t + min t (n - j * t) = n := by omega
      rw [e1, cyc_succ, e2]
      by_cases w : (n + p) % c = h
      · simp [z, w]
      · simp [z, w]
    · have zz : ¬ (j * t ≤ n ∧ n < j * t + t) := fun w => z ((div_at ht).mpr w)
      have e1 : min t (n + 1 - j * t) = min t (n - j * t) := by omega
      rw [e1]
      simp [z]
def blkS (fl : Bool) (a b : Int) (t c p n : Nat) : List EH := (List.range n).map fun (k : Nat) => ((if fl = true then (a, b + ((k / t : Nat) : Int)) else (a + ((k / t : Nat) : Int), b)), (((k + p) % c : Nat) : Int))
theorem deq {x h : Nat} : decide (((x : Nat) : Int) = (h : Int)) = decide (x = h) := decide_eq_decide.mpr (by omega)
theorem blkS_cen {t c p n : Nat} (x y : Int) (h : Nat) : (List.range n).countP (fun k => decide (x = y) && decide ((((k + p) % c : Nat) : Int) = h)) = if x = y then cyc c p 0 n h else 0 := by
  by_cases z : x = y
  · rw [if_pos z, ← star_c]
    refine List.countP_congr fun k _ => ?_
    rw [decide_eq_true z, deq, Bool.true_and]
  · rw [if_neg z, List.countP_eq_zero]
    intro k _
    simp [z]
theorem blkS_oth {t c p n : Nat} (ht : 0 < t) (x v : Int) (h : Nat) : (List.range n).countP (fun k => decide (x + ((k / t : Nat) : Int) = v) && decide ((((k + p) % c : Nat) : Int) = h)) = if x ≤ v then cyc c p ((v - x).toNat * t) (min t (n - (v - x).toNat * t)) h else 0 := by
  by_cases z : x ≤ v
  · rw [if_pos z, ← star_o ht]
    refine List.countP_congr fun k _ => ?_
    have e : decide (x + ((k / t : Nat) : Int) = v) = decide (k / t = (v - x).toNat) := decide_eq_decide.mpr (by generalize k / t = r; omega)
    rw [e, deq]
  · rw [if_neg z, List.countP_eq_zero]
    intro k _
    have e : decide (x + ((k / t : Nat) : Int) = v) = false := decide_eq_false (by generalize k / t = r; omega)
    rw [e]
    simp
theorem blkS_bal {fl : Bool} {a b : Int} {t c p n : Nat} (ht : 0 < t) (hc : 0 < c) : Bal (blkS fl a b t c p n) c := fun s v h h' hs2 hh hh' => by
  unfold cntZ blkS
  rw [List.countP_map, List.countP_map]
  have cen : ∀ x : Int, (if x = v then cyc c p 0 n h else 0) ≤ (if x = v then cyc c p 0 n h' else 0) + 1 := fun x => by
    by_cases z : x = v
    · rw [if_pos z, if_pos z]; exact cyc_bal hc hh hh'
    · rw [if_neg z, if_neg z]; omega
  have oth : ∀ x : Int, (if x ≤ v then cyc c p ((v - x).toNat * t) (min t (n - (v - x).toNat * t)) h else 0) ≤ (if x ≤ v then cyc c p ((v - x).toNat * t) (min t (n - (v - x).toNat * t)) h' else 0) + 1 := fun x => by
    by_cases z : x ≤ v
    · rw [if_pos z, if_pos z]; exact cyc_bal hc hh hh'
    · rw [if_neg z, if_neg z]; omega
  match s, hs2, fl with
  | 0, _, true =>
    have := cen a
    rw [← blkS_cen (t := t), ← blkS_cen (t := t)] at this
    exact this
  | 1, _, true =>
    have := oth b
    rw [← blkS_oth ht, ← blkS_oth ht] at this
    exact this
  | 0, _, false =>
    have := oth a
    rw [← blkS_oth ht, ← blkS_oth ht] at this
    exact this
  | 1, _, false =>
    have := cen b
    rw [← blkS_cen (t := t), ← blkS_cen (t := t)] at this
    exact this
theorem blkS_in {fl : Bool} {a b : Int} {t c p n : Nat} (hc : 0 < c) : In (blkS fl a b t c p n) a (a + 1 + ((n / t : Nat) : Int)) b (b + 1 + ((n / t : Nat) : Int)) c := fun z hz => by
  obtain ⟨k, hk, rfl⟩ := List.mem_map.mp hz
  have hk := List.mem_range.mp hk
  have h3 : k / t ≤ n / t := Nat.div_le_div_right (by omega)
  have h4 := Nat.mod_lt (k + p) hc
  cases fl
  · show a ≤ a + ((k / t : Nat) : Int) ∧ a + ((k / t : Nat) : Int) < _ ∧ b ≤ b ∧ b < _ ∧ 0 ≤ (((k + p) % c : Nat) : Int) ∧ (((k + p) % c : Nat) : Int) < c
    generalize k / t = q1 at h3 ⊢
    generalize n / t = q2 at h3 ⊢
    generalize (k + p) % c = q3 at h4 ⊢
    omega
  · show a ≤ a ∧ a < _ ∧ b ≤ b + ((k / t : Nat) : Int) ∧ b + ((k / t : Nat) : Int) < _ ∧ 0 ≤ (((k + p) % c : Nat) : Int) ∧ (((k + p) % c : Nat) : Int) < c
    generalize k / t = q1 at h3 ⊢
    generalize n / t = q2 at h3 ⊢
    generalize (k + p) % c = q3 at h4 ⊢
    omega
/-! ### the law's loops -/
abbrev fs (Z : List EH) : List (Int × Int) := Z.map Prod.fst
abbrev sn (Z : List EH) : List Int := Z.map Prod.snd
theorem grow_ok {α : Type} {f : List (Int × Int) × List Int → α → Out (List (Int × Int) × List Int)} {w : Nat → EH} (xs : List α) (e0 : List (Int × Int)) (h0 : List Int) (hl : e0.length + xs.length < 16777216) (hl2 : h0.length + xs.length < 16777216)
    (hf : ∀ (i : Nat) x (e : List (Int × Int)) (h : List Int), xs[i]? = some x → e.length < 16777216 → h.length < 16777216 → f (e, h) x = pure (e ++ [(w i).1], h ++ [(w i).2])) :
    forO f xs (e0, h0) = pure (e0 ++ fs ((List.range xs.length).map w), h0 ++ sn ((List.range xs.length).map w)) := by
  refine for_ex0 (P := fun q => q = pure (e0 ++ fs ((List.range xs.length).map w), h0 ++ sn ((List.range xs.length).map w))) (fun j st => st = (e0 ++ fs ((List.range j).map w), h0 ++ sn ((List.range j).map w))) (by simp) (fun i st x hx hs => ?_) (fun st hs => by rw [hs])
  have hi := (List.getElem?_eq_some_iff.mp hx).1
  subst hs
  rw [hf i x _ _ hx (by simp; omega) (by simp; omega)]
  refine ⟨_, rfl, ?_⟩
  rw [List.range_succ, List.map_append]
  simp
theorem grows_ok {α : Type} {f : List (Int × Int) × List Int → α → Out (List (Int × Int) × List Int)} {w : Nat → List EH} {k : Nat} (xs : List α) (e0 : List (Int × Int)) (h0 : List Int) (hl : e0.length + xs.length * k < 16777216) (hl2 : h0.length + xs.length * k < 16777216) (hw : ∀ i, (w i).length = k)
    (hf : ∀ (i : Nat) x (e : List (Int × Int)) (h : List Int), xs[i]? = some x → e.length + k < 16777216 → h.length + k < 16777216 → f (e, h) x = pure (e ++ fs (w i), h ++ sn (w i))) :
    forO f xs (e0, h0) = pure (e0 ++ fs ((List.range xs.length).flatMap w), h0 ++ sn ((List.range xs.length).flatMap w)) := by
  have len : ∀ j, ((List.range j).flatMap w).length = j * k := fun j => by
    induction j with
    | zero => simp
    | succ j ih =>
      rw [List.range_succ, List.flatMap_append, List.length_append, ih, Nat.succ_mul]
      simp [hw]
  refine for_ex0 (P := fun q => q = pure (e0 ++ fs ((List.range xs.length).flatMap w), h0 ++ sn ((List.range xs.length).flatMap w))) (fun j st => st = (e0 ++ fs ((List.range j).flatMap w), h0 ++ sn ((List.range j).flatMap w))) (by simp) (fun i st x hx hs => ?_) (fun st hs => by rw [hs])
  have hi := (List.getElem?_eq_some_iff.mp hx).1
  have hle : (i + 1) * k ≤ xs.length * k := Nat.mul_le_mul_right _ hi
  have hs2 : (i + 1) * k = i * k + k := Nat.succ_mul i k
  subst hs
  rw [hf i x _ _ hx (by rw [List.length_append, List.length_map, len]; omega) (by rw [List.length_append, List.length_map, len]; omega)]
  refine ⟨_, rfl, ?_⟩
  rw [List.range_succ, List.flatMap_append]
  simp

/-! MJ5: what the law builds. -/
theorem Dig.nat {L sizes : List Int} (h : Dig L sizes) (i : Nat) {s : Nat} (hs : sizes[i]? = some (s : Int)) : ∃ d : Nat, idx L (i : Int) = pure (d : Int) ∧ d < s := by
  obtain ⟨d, _, e, a, b⟩ := h.get i hs
  obtain ⟨n, rfl⟩ := Int.eq_ofNat_of_zero_le a
  exact ⟨n, e, by omega⟩
theorem modO_nat {x m : Nat} (h : 0 < m) : modO (x : Int) (m : Int) = pure ((x % m : Nat) : Int) := by
  rw [modO_ok (by omega)]
  rfl
theorem built_ok (ns : List Int) {row : List Int} (D : Dig row [30, 4, 16, 100000, 1000, 1000, 6, 24, 33, 9, 9, 9, 30]) {c : Nat} (hc : 0 < c) :
    ∃ Z l r, m_law_built ns row (c : Int) = pure (fs Z, sn Z) ∧ Bal Z c ∧ In Z 0 l 0 r c ∧ l ≤ 1000 ∧ r ≤ 1000 ∧ 0 < Z.length ∧ Z.length ≤ 3000 := by
  obtain ⟨d1, i1, b1⟩ := D.nat 1 (s := 4) rfl
  obtain ⟨d2, i2, b2⟩ := D.nat 2 (s := 16) rfl
  have i1' : idx row 1 = pure (d1 : Int) := i1
  have i2' : idx row 2 = pure (d2 : Int) := i2
  rw [m_law_built_eq]
  unfold b_law_built
  have hN : ∃ N A B : Nat, N * A ≤ 1000 ∧ N * B ≤ 3000 ∧ 1 ≤ N ∧ N ≤ 4 ∧ (mulO (d1 : Int) (if decide ((0 : Int) < d2) = true then 1 else 0)) = pure ((N : Int) - 1) ∧ ((d2 = 0 ∧ A = 700 ∧ B = 2000) ∨ (0 < d2 ∧ A = 40 ∧ B = 60)) := by
    by_cases z : d2 = 0
    · refine ⟨1, 700, 2000, by omega, by omega, by omega, by omega, ?_, .inl ⟨z, rfl, rfl⟩⟩
      rw [if_neg (by simp; omega), mulO_r (by omega) (by omega), Int.mul_zero]
      rfl
    · refine ⟨1 + d1, 40, 60, by omega, by omega, by omega, by omega, ?_, .inr ⟨by omega, rfl, rfl⟩⟩
      rw [if_pos (by simp; omega), mulO_r (by omega) (by omega), Int.mul_one]
      have : (d1 : Int) = ((1 + d1 : Nat) : Int) - 1 := by omega
      rw [← this]
  obtain ⟨N, A, B, hNA, hNB, hN1, hN4, eN, hAB⟩ := hN
  have e1N : (1 : Int) + ((N : Int) - 1) = (N : Int) := by omega
  rw [pbind, pbind, pbind, pbind, i1', pbind, i2', pbind, pbind, pbind, eN, pbind, pbind, e1N, rangeO_nat (by omega), pbind]
  refine for_ex (P := fun o => ∃ Z l r, o = pure (fs Z, sn Z) ∧ Bal Z c ∧ In Z 0 l 0 r c ∧ l ≤ 1000 ∧ r ≤ 1000 ∧ 0 < Z.length ∧ Z.length ≤ 3000)
    (fun j (st : Int × Int × List (Int × Int) × List Int) => ∃ (Z : List EH) (l r : Int), st = (l, r, fs Z, sn Z) ∧ Bal Z c ∧ In Z 0 l 0 r c ∧ 0 ≤ l ∧ 0 ≤ r ∧ l ≤ ((j * A : Nat) : Int) ∧ r ≤ ((j * A : Nat) : Int) ∧ Z.length ≤ j * B ∧ (0 < j → 0 < Z.length))
    ⟨[], 0, 0, rfl, fun s v h h' _ _ _ => by simp [cntZ], fun z hz => by simp at hz, by omega, by omega, by omega, by omega, by simp, by omega⟩ (fun i st x hx ⟨Z, l, r, h1, h2, h3, h4, h5, h6, h7, h8, h9⟩ => ?_) (fun st ⟨Z, l, r, h1, h2, h3, h4, h5, h6, h7, h8, h9⟩ => ?_)
  · obtain ⟨rfl, hi⟩ := upto_at hx
    subst h1
    have hA1 : (i + 1) * A = i * A + A := Nat.succ_mul i A
    have hB1 : (i + 1) * B = i * B + B := Nat.succ_mul i B
    have hBle : (i + 1) * B ≤ N * B := Nat.mul_le_mul_right _ hi
    obtain ⟨cell, ec⟩ := cell_ok ns (1 + (i : Int)) (by omega) (by omega)
    obtain ⟨part, ep, Dp⟩ := digits_ok cell [5, 6, 10, 60, 39, 5, 400] (by decide) (by decide)
    have Dp : Dig part [5, 6, 10, 60, 39, 5, 400] := Dp
    obtain ⟨p0, j0, q0⟩ := Dp.nat 0 (s := 5) rfl
    obtain ⟨p1, j1, q1⟩ := Dp.nat 1 (s := 6) rfl
    obtain ⟨p2, j2, q2⟩ := Dp.nat 2 (s := 10) rfl
    obtain ⟨p3, j3, q3⟩ := Dp.nat 3 (s := 60) rfl
    obtain ⟨p4, j4, q4⟩ := Dp.nat 4 (s := 39) rfl
    obtain ⟨p5, j5, q5⟩ := Dp.nat 5 (s := 5) rfl
    obtain ⟨p6, j6, q6⟩ := Dp.nat 6 (s := 400) rfl
    have j0' : idx part 0 = pure (p0 : Int) := j0
    have j1' : idx part 1 = pure (p1 : Int) := j1
    have j2' : idx part 2 = pure (p2 : Int) := j2
    have j3' : idx part 3 = pure (p3 : Int) := j3
    have j4' : idx part 4 = pure (p4 : Int) := j4
    have j5' : idx part 5 = pure (p5 : Int) := j5
    have j6' : idx part 6 = pure (p6 : Int) := j6
    rw [ec, pbind, ep, pbind, pbind, pbind]
    have ecase : (if decide ((0 : Int) < d2) = true then (idx part 0) >>= fun t11 => (pure (decide (t11 < 3)) : Out Bool) else pure false) = pure (decide (0 < d2 ∧ p0 < 3)) := by
      by_cases z : 0 < d2
      · have w : decide ((p0 : Int) < 3) = decide (0 < d2 ∧ p0 < 3) := decide_eq_decide.mpr (by omega)
        rw [if_pos (by simp; omega), j0', pbind, w]
      · rw [if_neg (by simp; omega), decide_eq_false (by omega)]
    rw [ecase, pbind]
    -- a block W behind Z
    have join : ∀ (W : List EH) (w : Nat), Bal W c → In W l (l + w) r (r + w) c → w ≤ A → W.length ≤ B → 0 < W.length →
        ∃ (Z' : List EH) (l' r' : Int), ((l + (w : Int), r + (w : Int), fs Z ++ fs W, sn Z ++ sn W) : Int × Int × List (Int × Int) × List Int) = (l', r', fs Z', sn Z') ∧ Bal Z' c ∧ In Z' 0 l' 0 r' c ∧ 0 ≤ l' ∧ 0 ≤ r' ∧ l' ≤ (((i + 1) * A : Nat) : Int) ∧ r' ≤ (((i + 1) * A : Nat) : Int) ∧ Z'.length ≤ (i + 1) * B ∧ (0 < i + 1 → 0 < Z'.length) := fun W w k1 k2 k3 k4 k5 =>
      ⟨Z ++ W, l + w, r + w, by simp [fs, sn], h2.app k1 h3 k2, h3.app k2 h4 h5 (by omega) (by omega), by omega, by omega, by omega, by omega, by rw [List.length_append]; omega, fun _ => by rw [List.length_append]; omega⟩
    by_cases z : 0 < d2 ∧ p0 < 3
    · rw [if_pos (by simpa using z)]
      have em : (1 : Int) + (p1 : Int) = ((p1 + 1 : Nat) : Int) := by omega
      have eS : (1 : Int) + (p2 : Int) = ((p2 + 1 : Nat) : Int) := by omega
      have hmS : (p2 + 1) * (p1 + 1) ≤ 10 * 6 := Nat.mul_le_mul (by omega) (by omega)
      have wlen : ∀ sh, (rowM l r (p1 + 1) sh (((sh + p3) % c : Nat) : Int)).length = p1 + 1 := fun sh => by unfold rowM; simp
      have hW : (blkM l r (p1 + 1) c p3 (p2 + 1)).length = (p2 + 1) * (p1 + 1) := by
        unfold blkM
        generalize p2 + 1 = S
        induction S with
        | zero => simp
        | succ S ih => rw [List.range_succ, List.flatMap_append, List.length_append, ih, Nat.succ_mul]; have := wlen S; simp only [List.flatMap_cons, List.flatMap_nil, List.append_nil, this]
      have hpos : 0 < (p2 + 1) * (p1 + 1) := Nat.mul_pos (by omega) (by omega)
      rw [j1', pbind, pbind, em, j2', pbind, pbind, eS, rangeO_nat (by omega), pbind]
      dsimp only
      rw [grows_ok (w := fun sh => rowM l r (p1 + 1) sh (((sh + p3) % c : Nat) : Int)) (k := p1 + 1) (upto (p2 + 1)) (fs Z) (sn Z) (by rw [upto_len, List.length_map]; omega) (by rw [upto_len, List.length_map]; omega) wlen (hf := ?_)]
      · rw [pbind, pbind, pbind, upto_len]
        exact ⟨_, rfl, join (blkM l r (p1 + 1) c p3 (p2 + 1)) (p1 + 1) (blkM_bal (by omega) hc) (blkM_in hc) (by omega) (by omega) (by omega)⟩
      · intro sh x e h hx he hh
        obtain ⟨rfl, hsh⟩ := upto_at hx
        dsimp only
        rw [rangeO_nat (by omega), pbind, grow_ok (w := fun k => ((l + (k : Int), r + (((k + sh) % (p1 + 1) : Nat) : Int)), (((sh + p3) % c : Nat) : Int))) (upto (p1 + 1)) e h (by rw [upto_len]; omega) (by rw [upto_len]; omega) (hf := ?_)]
        · rw [pbind, upto_len]
          rfl
        · intro k x e h hx he hh
          obtain ⟨rfl, hk⟩ := upto_at hx
          dsimp only
          have a1 : ((k : Int) + (sh : Int)) = ((k + sh : Nat) : Int) := by omega
          have a2 : ((sh : Int) + (p3 : Int)) = ((sh + p3 : Nat) : Int) := by omega
          rw [a1, modO_nat (by omega), pbind, pbind, pbind, appO_ok he, pbind, j3', pbind, pbind, pbind, a2, modO_nat hc, pbind, appO_ok hh, pbind]
    · rw [if_neg (by simpa using z)]
      have e36 : ((pure (decide ((d2 : Int) = 0)) : Out Bool) >>= fun c35 => if c35 = true then (
          ((idx part 6) >>= fun t37 => pure (1600 + t37)) >>= fun size =>
          ((idx part 5) >>= fun t38 => pure (3 + t38)) >>= fun times =>
          (pure (size, times) : Out (Int × Int)))
          else (
          pure (1 + (p4 : Int), 1 + (p5 : Int)))) = pure ((((if d2 = 0 then 1600 + p6 else 1 + p4 : Nat)) : Int), (((if d2 = 0 then 3 + p5 else 1 + p5 : Nat)) : Int)) := by
        rw [pbind]
        by_cases y : d2 = 0
        · rw [if_pos (by simp [y]), if_pos y, if_pos y, j6', pbind, pbind, j5', pbind, pbind]
          rfl
        · rw [if_neg (by simpa using y), if_neg y, if_neg y]
          rfl
      rw [j4', pbind, pbind, j5', pbind, pbind]
      rw [j5'] at e36
      rw [e36, pbind]
      have hn : 0 < (if d2 = 0 then 1600 + p6 else 1 + p4) ∧ (if d2 = 0 then 1600 + p6 else 1 + p4) ≤ B := by
        rcases hAB with ⟨y, yA, yB⟩ | ⟨y, yA, yB⟩
        · rw [if_pos y]; omega
        · rw [if_neg (by omega)]; omega
      have ht : 0 < (if d2 = 0 then 3 + p5 else 1 + p5) ∧ (if d2 = 0 then 3 + p5 else 1 + p5) < 100 ∧ 1 + (if d2 = 0 then 1600 + p6 else 1 + p4) / (if d2 = 0 then 3 + p5 else 1 + p5) ≤ A := by
        rcases hAB with ⟨y, yA, yB⟩ | ⟨y, yA, yB⟩
        · rw [if_pos y, if_pos y]
          have : (1600 + p6) / (3 + p5) ≤ (1600 + p6) / 3 := Nat.div_le_div_left (by omega) (by omega)
          omega
        · rw [if_neg (by omega), if_neg (by omega)]
          have : (1 + p4) / (1 + p5) ≤ 1 + p4 := Nat.div_le_self _ _
          omega
      generalize (if d2 = 0 then 1600 + p6 else 1 + p4) = n at hn ht ⊢
      generalize (if d2 = 0 then 3 + p5 else 1 + p5) = t at ht ⊢
      dsimp only
      have hBB : B ≤ 2000 := by omega
      have hl3 : Z.length ≤ 3000 := by omega
      rw [rangeO_nat (by omega), pbind, grow_ok (w := fun k => ((if decide (p0 % 2 = 1) = true then (l, r + ((k / t : Nat) : Int)) else (l + ((k / t : Nat) : Int), r)), (((k + p3) % c : Nat) : Int))) (upto n) (fs Z) (sn Z) (by rw [upto_len, List.length_map]; omega) (by rw [upto_len, List.length_map]; omega) (hf := ?_)]
      · rw [pbind, divO_nat ht.1 (by omega), pbind, pbind, pbind, pbind, upto_len]
        obtain ⟨Z', l', r', g1, g2⟩ := join (blkS (decide (p0 % 2 = 1)) l r t c p3 n) (1 + n / t) (blkS_bal ht.1 hc) (by
          have := blkS_in (fl := decide (p0 % 2 = 1)) (a := l) (b := r) (t := t) (p := p3) (n := n) hc
          rw [show l + ((1 + n / t : Nat) : Int) = l + 1 + ((n / t : Nat) : Int) by omega, show r + ((1 + n / t : Nat) : Int) = r + 1 + ((n / t : Nat) : Int) by omega]
          exact this) ht.2.2 (by unfold blkS; simp; exact hn.2) (by unfold blkS; simp; exact hn.1)
        refine ⟨_, rfl, Z', l', r', ?_, g2⟩
        rw [← g1, show l + ((1 + n / t : Nat) : Int) = l + 1 + ((n / t : Nat) : Int) by omega, show r + ((1 + n / t : Nat) : Int) = r + 1 + ((n / t : Nat) : Int) by omega]
        rfl
      · intro k x e h hx he hh
        obtain ⟨rfl, hk⟩ := upto_at hx
        dsimp only
        have a2 : ((k : Int) + (p3 : Int)) = ((k + p3 : Nat) : Int) := by omega
        rw [j0', pbind, pbind, pbind]
        by_cases y : p0 % 2 = 1
        · rw [if_pos (by simp; omega), divO_nat ht.1 (by omega), pbind, pbind, pbind, appO_ok he, pbind, pbind, j3', pbind, pbind, pbind, a2, modO_nat hc, pbind, appO_ok hh, pbind, if_pos (by simpa using y)]
        · rw [if_neg (by simp; omega), divO_nat ht.1 (by omega), pbind, pbind, pbind, appO_ok he, pbind, pbind, j3', pbind, pbind, pbind, a2, modO_nat hc, pbind, appO_ok hh, pbind, if_neg (by simpa using y)]
  · rw [upto_len] at h6 h7 h8 h9
    subst h1
    exact ⟨Z, l, r, rfl, h2, h3, by omega, by omega, h9 (by omega), by omega⟩

/-! MJ6: mixed; judged; asked. -/
theorem sdv_fs {Z : List EH} {e : Nat} (he : e < Z.length) (s : Nat) : ed (fs Z) e s = sdv (Z[e]).1 s := by
  unfold ed sdv
  rw [List.getElem?_map, List.getElem?_eq_getElem he]
  rfl
theorem map_range {α : Type} (Z : List α) (d : α) : Z = (List.range Z.length).map fun e => (Z[e]?).getD d := by
  apply List.ext_getElem?
  intro i
  by_cases hi : i < Z.length
  · rw [List.getElem?_map, List.getElem?_range hi]
    show Z[i]? = some ((Z[i]?).getD d)
    rw [List.getElem?_eq_getElem hi]
    rfl
  · rw [List.getElem?_eq_none (by omega), List.getElem?_eq_none (by simp; omega)]
abbrev colOf (hues : List Int) : Nat → Nat := fun e => ((hues[e]?).getD 0).toNat
theorem cnt_hs {Z : List EH} {c : Nat} (hz : ∀ z ∈ Z, 0 ≤ z.2 ∧ z.2 < c) (s : Nat) (v : Int) (h : Nat) : (hs (fs Z) Z.length (colOf (sn Z)) s v).count h = cntZ Z s v h := by
  unfold hs List.count
  rw [List.countP_map, List.countP_filter]
  unfold cntZ
  conv => rhs; rw [map_range Z ((0, 0), 0)]
  rw [List.countP_map]
  refine List.countP_congr fun e he => ?_
  have he := List.mem_range.mp he
  have hzz := hz _ (List.getElem_mem he)
  have h1 : (sn Z)[e]? = some (Z[e]).2 := by rw [List.getElem?_map, List.getElem?_eq_getElem he]; rfl
  simp only [Function.comp, Bool.and_eq_true, decide_eq_true_eq, beq_iff_eq, colOf, h1, Option.getD_some, sdv_fs he, List.getElem?_eq_getElem he]
  constructor
  · rintro ⟨a, b⟩
    exact ⟨b, by omega⟩
  · rintro ⟨a, b⟩
    exact ⟨by omega, a⟩
theorem colI_of {hues : List Int} {c : Nat} (hh : ∀ x ∈ hues, 0 ≤ x ∧ x < c) : colI hues.length (colOf hues) = hues := by
  conv => rhs; rw [map_range hues 0]
  refine List.map_congr_left fun e he => ?_
  have he := List.mem_range.mp he
  have := hh _ (List.getElem_mem he)
  simp only [colOf, List.getElem?_eq_getElem he, Option.getD_some]
  omega
theorem even_law {c n : Nat} {T : List (Int × Int)} {col : Nat → Nat} (hn : T.length = n) (hn2 : n < 16777216) (hc0 : 0 < c) (hc : c ≤ 16777216) (hcol : ∀ e, e < n → col e < c) :
    ∃ b, m_law_even T (c : Int) (colI n col) = pure b ∧ (b = true ↔ Ev T n col c 0 ∧ Ev T n col c 1) := by
  obtain ⟨b0, e0, i0⟩ := side_ok (s := 0) (by decide) hn hn2 hc0 hc hcol
  obtain ⟨b1, e1, i1⟩ := side_ok (s := 1) (by decide) hn hn2 hc0 hc hcol
  have e0 : m_law_even_side T 0 (c : Int) (colI n col) = pure b0 := e0
  have e1 : m_law_even_side T 1 (c : Int) (colI n col) = pure b1 := e1
  rw [m_law_even_eq]
  unfold b_law_even
  rw [pbind, forR_nx]
  · rw [pbind]
    dsimp only
    rw [e0, pbind]
    cases b0 with
    | false => exact ⟨false, rfl, by simp, fun w => i0.mpr w.1⟩
    | true =>
      rw [if_pos rfl, e1]
      exact ⟨b1, rfl, fun w => ⟨i0.mp rfl, i1.mp w⟩, fun w => i1.mpr w.2⟩
  · intro x hx
    obtain ⟨e, he, rfl⟩ := List.mem_map.mp hx
    have := hcol e (List.mem_range.mp he)
    rw [if_neg (by simp), pbind, if_neg (by simp; omega)]
theorem judge {c : Nat} {T : List (Int × Int)} {hues : List Int} (hn : hues.length = T.length) (hn2 : T.length < 16777216) (hc0 : 0 < c) (hc : c ≤ 16777216) :
    ∃ b, m_law_even T (c : Int) hues = pure b ∧ m_hues_even (prs T) (c : Int) hues = pure b ∧ ((∀ x ∈ hues, 0 ≤ x ∧ x < c) → (b = true ↔ Ev T T.length (colOf hues) c 0 ∧ Ev T T.length (colOf hues) c 1)) := by
  by_cases hh : ∀ x ∈ hues, 0 ≤ x ∧ x < (c : Int)
  · have hcol : ∀ e, e < T.length → colOf hues e < c := fun e he => by
      have he : e < hues.length := by omega
      have := hh _ (List.getElem_mem he)
      simp only [colOf, List.getElem?_eq_getElem he, Option.getD_some]
      omega
    obtain ⟨b, e, i⟩ := even_law rfl hn2 hc0 hc hcol
    obtain ⟨b', e', i'⟩ := hues_ok rfl hn2 hc0 hc hcol
    rw [← hn, colI_of hh] at e e'
    have : b = b' := by
      cases b <;> cases b' <;> first | rfl | exact absurd (i'.mp rfl) (fun w => by have := i.mpr w; cases this) | exact absurd (i.mp rfl) (fun w => by have := i'.mpr w; cases this)
    subst this
    exact ⟨b, e, e', fun _ => i⟩
  · obtain ⟨x, hx, hb⟩ : ∃ x ∈ hues, x < 0 ∨ (c : Int) ≤ x := Classical.byContradiction fun z => hh fun x hx => Classical.byContradiction fun w => z ⟨x, hx, by omega⟩
    refine ⟨false, ?_, ?_, fun w => absurd w hh⟩
    · rw [m_law_even_eq]
      unfold b_law_even
      rw [pbind]
      rcases forR_bool (bad := fun x : Int => x < 0 ∨ (c : Int) ≤ x) (f := fun (s1 : Unit) (x2 : Int) =>
          (if (decide (x2 < 0)) = true then (pure true : Out Bool) else pure (decide ((c : Int) ≤ x2))) >>= fun c3 => if c3 = true then (
          (pure false) >>= fun r4 => (pure (Step.rt r4) : Out (Step Bool Unit)))
          else (
          pure (Step.nx ()))) hues (fun y hy => by
          by_cases a : y < 0
          · exact .inl ⟨.inl a, by rw [if_pos (by simpa using a)]; rfl⟩
          · by_cases b : (c : Int) ≤ y
            · exact .inl ⟨.inr b, by rw [if_neg (by simpa using a), pbind, if_pos (by simpa using b)]; rfl⟩
            · exact .inr ⟨by omega, by rw [if_neg (by simpa using a), pbind, if_neg (by simpa using b)]⟩) with ⟨_, e⟩ | ⟨hall, _⟩
      · rw [e]
        rfl
      · exact absurd hb (hall x hx)
    · rw [m_hues_even_eq]
      unfold b_hues_even
      have e0 : mapO (fun hue1 => (if decide (0 ≤ hue1) = true then (pure (decide (hue1 < (c : Int))) : Out Bool) else pure false) >>= fun t2 => (pure (!t2) : Out Bool)) hues = pure (hues.map fun y => !(decide (0 ≤ y) && decide (y < (c : Int)))) := mapO_ok _ fun y hy => by
        cases a : decide (0 ≤ y) <;> rfl
      have ea : (hues.map fun y => !(decide (0 ≤ y) && decide (y < (c : Int)))).any id = true := by
        rw [List.any_eq_true]
        refine ⟨_, List.mem_map.mpr ⟨x, hx, rfl⟩, ?_⟩
        simp
        omega
      rw [e0, pbind, ea, pbind, if_pos rfl]
theorem asked_ok {T : List (Int × Int)} {c : Int} {hues : List Int} {b : Bool} (h : m_hues_even (prs T) c hues = pure b) : m_law_asked T c hues b = pure true := by
  have eg : mapO (fun (e : Int × Int) => (pure [e.1, e.2] : Out (List Int))) T = pure (prs T) := mapO_ok T fun _ _ => rfl
  rw [m_law_asked_eq]
  unfold b_law_asked
  rw [pbind, eg, pbind, pbind, h, pbind, if_neg (by decide), pbind, if_neg (by simp), pbind, pbind, if_pos (by simp)]
  simp
theorem eqT1 : m_law_even_sideT = m_law_even_side := by
  rw [m_law_even_sideT_eq, m_law_even_side_eq]
  rfl
theorem eqT2 : m_law_evenT = m_law_even := by
  rw [m_law_evenT_eq, m_law_even_eq]
  unfold b_law_evenT b_law_even
  rw [eqT1]
theorem eqT3 : m_law_askedT = m_law_asked := by
  rw [m_law_askedT_eq, m_law_asked_eq]
  rfl
theorem eqT4 : m_law_partnerT = m_law_partner := by
  rw [m_law_partnerT_eq, m_law_partner_eq]
  rfl
theorem eqT5 : m_law_changedT = m_law_changed := by
  rw [m_law_changedT_eq, m_law_changed_eq]
  unfold b_law_changedT b_law_changed
  rw [eqT4]
theorem dcO_map {α β κ δ : Type} [DecidableEq κ] {g : α → β} {mk : β → Out κ} {mv : β → Out δ} : ∀ (xs : List α) (acc : List (κ × δ)), dcO mk mv (xs.map g) acc = dcO (fun x => mk (g x)) (fun x => mv (g x)) xs acc
  | [], _ => rfl
  | x :: xs, acc => by
    rw [List.map_cons]
    unfold dcO
    cases mk (g x) with
    | ok j =>
      cases mv (g x) with
      | ok v =>
        by_cases h : acc.length < 16777216
        · simp only [if_pos h]
          exact dcO_map xs _
        · simp only [if_neg h]
      | err _ => rfl
      | stuck => rfl
    | err _ => rfl
    | stuck => rfl
theorem forO_map {α β S : Type} {g : α → β} {f : S → β → Out S} : ∀ (xs : List α) (s : S), forO f (xs.map g) s = forO (fun s x => f s (g x)) xs s
  | [], _ => rfl
  | x :: xs, s => by
    rw [List.map_cons]
    unfold forO
    cases f s (g x) with
    | ok s' => exact forO_map xs s'
    | err _ => rfl
    | stuck => rfl
theorem eqT6 (T : List (Int × Int)) (c : Int) (hues : List Int) : m_hues_evenT T c hues = m_hues_even (prs T) c hues := by
  rw [m_hues_evenT_eq, m_hues_even_eq]
  unfold b_hues_evenT b_hues_even
  have hz : List.zip (prs T) hues = (List.zip T hues).map fun x => ([x.1.1, x.1.2], x.2) := by
    rw [List.zip_map_left]
    rfl
  simp only [hz, dcO_map, forO_map, prs, pbind]

/-! MJ7: mixed edges; changed hues. -/
theorem mixed_ok {row : List Int} (D : Dig row [30, 4, 16, 100000, 1000, 1000, 6, 24, 33, 9, 9, 9, 30]) {Z : List EH} {c : Nat} {l r : Int} (hin : In Z 0 l 0 r c) (hl : l ≤ 1000) (hr : r ≤ 1000) (hb : Bal Z c) (hlen : Z.length ≤ 3000) :
    ∃ Z', m_law_mixed (fs Z, sn Z) row = pure (fs Z', sn Z') ∧ Z'.length = Z.length ∧ Bal Z' c ∧ ∀ z ∈ Z', 0 ≤ z.2 ∧ z.2 < c := by
  obtain ⟨d3, _, i3, a3, b3⟩ := D.get 3 (s := 100000) rfl
  obtain ⟨d4, _, i4, _⟩ := D.get 4 (s := 1000) rfl
  obtain ⟨d5, _, i5, _⟩ := D.get 5 (s := 1000) rfl
  obtain ⟨d6, _, i6, a6, b6⟩ := D.get 6 (s := 6) rfl
  have i3' : idx row 3 = pure d3 := i3
  have i4' : idx row 4 = pure d4 := i4
  have i5' : idx row 5 = pure d5 := i5
  have i6' : idx row 6 = pure d6 := i6
  obtain ⟨st, hst, hstep⟩ := step_ok a6 b6
  have st0 : 0 < st ∧ st < 1000 := by omega
  rw [m_law_mixed_eq]
  unfold b_law_mixed
  dsimp only
  have hfl : (fs Z).length = Z.length := List.length_map _
  have emul : ∀ k ∈ upto Z.length, ((((((idx row 3) >>= fun t2 => (pure (1 + t2) : Out Int)) >>= fun t3 => mulO (k + 1) t3) >>= fun t4 => (pure t4 : Out Int)) >>= fun t5 => (pure (t5 % 1000003) : Out Int)) >>= fun t6 => (pure (t6 * 4096) : Out Int)) >>= (fun t7 => (pure (t7 + k) : Out Int)) = pure (kf (1 + d3) k) := fun k hk => by
    obtain ⟨k0, k1⟩ := upto_mem.mp hk
    have : mulO (k + 1) (1 + d3) = pure ((k + 1) * (1 + d3)) := if_pos (.inl ⟨by omega, by omega⟩)
    rw [i3', pbind, pbind, this]
    rfl
  rw [pbind, hfl, rangeO_nat (by omega), pbind, mapO_ok (g := fun k => kf (1 + d3) k) (upto Z.length) emul, pbind, pbind]
  generalize hK : sortI ((upto Z.length).map fun k => kf (1 + d3) k) = keys
  have hperm : keys.Perm ((upto Z.length).map fun k => kf (1 + d3) k) := by rw [← hK]; exact sortI_perm _
  rw [mapO_ok (g := fun k => k % 4096) keys fun _ _ => rfl, pbind, pbind, pbind]
  have hko : (keys.map fun k => k % 4096).Perm (upto Z.length) := by
    have := hperm.map fun k => k % 4096
    rw [List.map_map] at this
    refine this.trans (List.Perm.of_eq ?_)
    conv => rhs; rw [← List.map_id (upto Z.length)]
    refine List.map_congr_left fun k hk => ?_
    obtain ⟨k0, k1⟩ := upto_mem.mp hk
    exact kf_mod k0 (by omega)
  generalize (keys.map fun k => k % 4096) = order at hko
  let g : Int × Int → Int × Int := fun y => ((d4 + y.1 * st) % 1000, (d5 + y.2 * st) % 1000)
  let at_ : Int → EH := fun k => (Z[k.toNat]?).getD ((0, 0), 0)
  let zz : Int → EH := fun k => (g (at_ k).1, (at_ k).2)
  have hord : ∀ k ∈ order, 0 ≤ k ∧ k < (Z.length : Int) := fun k hk => upto_mem.mp (hko.mem_iff.mp hk)
  have hat : ∀ k, 0 ≤ k → k < (Z.length : Int) → Z[k.toNat]? = some (at_ k) := fun k k0 k1 => by
    show Z[k.toNat]? = some ((Z[k.toNat]?).getD ((0, 0), 0))
    rw [List.getElem?_eq_getElem (by omega)]
    rfl
  have e2 : mapO (fun k25 => idx (sn Z) k25) order = pure (order.map fun k => (at_ k).2) := mapO_ok order fun k hk => by
    obtain ⟨k0, k1⟩ := hord k hk
    refine idx_int k0 ?_
    rw [List.getElem?_map, hat k k0 k1]
    rfl
  have hperm2 : (order.map zz).Perm (Z.map fun z => (g z.1, z.2)) := by
    refine (hko.map zz).trans (List.Perm.of_eq ?_)
    apply List.ext_getElem?
    intro i
    by_cases hi : i < Z.length
    · rw [List.getElem?_map, upto_get hi, List.getElem?_map, List.getElem?_eq_getElem hi]
      simp [zz, at_, List.getElem?_eq_getElem hi]
    · rw [List.getElem?_eq_none (by rw [List.length_map, upto_len]; omega), List.getElem?_eq_none (by simp; omega)]
  have hback : ∀ z ∈ order.map zz, ∃ y ∈ Z, z = (g y.1, y.2) := fun z hz => by
    obtain ⟨y, hy, e⟩ := List.mem_map.mp (hperm2.mem_iff.mp hz)
    exact ⟨y, hy, e.symm⟩
  refine for_ex (P := fun o => ∃ Z', o = pure (fs Z', sn Z') ∧ Z'.length = Z.length ∧ Bal Z' c ∧ ∀ z ∈ Z', 0 ≤ z.2 ∧ z.2 < c)
    (fun j (q : List (Int × Int)) => q = fs ((order.take j).map zz)) (by simp) (fun i q x hx hq => ?_) (fun q hq => ?_)
  · have hi := (List.getElem?_eq_some_iff.mp hx).1
    obtain ⟨k0, k1⟩ := hord x (List.mem_of_getElem? hx)
    have h1 : idx (fs Z) x = pure (at_ x).1 := idx_int k0 (by rw [List.getElem?_map, hat x k0 k1]; rfl)
    have hol : order.length = Z.length := by rw [hko.length_eq, upto_len]
    rw [h1, pbind, i4', pbind, i6', pbind, number_ok hst st0.1 st0.2, pbind, i5', pbind, pbind, number_ok hst st0.1 st0.2, pbind, pbind, appO_ok (by rw [hq]; simp; omega), pbind]
    refine ⟨_, rfl, ?_⟩
    rw [hq, List.take_add_one, hx, List.map_append]
    simp [zz, g]
  · rw [List.take_of_length_le (Nat.le_refl _)] at hq
    rw [e2, pbind]
    refine ⟨order.map zz, ?_, by rw [List.length_map, hko.length_eq, upto_len], fun s v h h' hs2 hh hh' => ?_, fun z hz => ?_⟩
    · rw [hq]
      have : sn (order.map zz) = order.map fun k => (at_ k).2 := by
        show (order.map zz).map Prod.snd = _
        rw [List.map_map]
        rfl
      rw [this]
    · have tr : ∀ x : Int, cntZ (order.map zz) s v x = Z.countP fun z => decide (sdv (g z.1) s = v) && decide (z.2 = x) := fun x => by
        unfold cntZ
        rw [hperm2.countP_eq, List.countP_map]
        rfl
      rw [tr, tr]
      by_cases ex : ∃ y ∈ Z, sdv (g y.1) s = v
      · obtain ⟨y, hy, ey⟩ := ex
        have same : ∀ x : Int, (Z.countP fun z => decide (sdv (g z.1) s = v) && decide (z.2 = x)) = cntZ Z s (sdv y.1 s) x := fun x => by
          unfold cntZ
          refine List.countP_congr fun z hz => ?_
          have q1 := hin z hz
          have q2 := hin y hy
          simp only [Bool.and_eq_true, decide_eq_true_eq]
          rw [← ey]
          match s, hs2 with
          | 0, _ =>
            constructor
            · rintro ⟨a, b⟩
              have a : (d4 + z.1.1 * st) % 1000 = (d4 + y.1.1 * st) % 1000 := a
              have e : z.1.1 = y.1.1 := num_inj hstep q1.1 (by omega) q2.1 (by omega) a
              exact ⟨e, b⟩
            · rintro ⟨a, b⟩
              refine ⟨?_, b⟩
              have a : z.1.1 = y.1.1 := a
              show (d4 + z.1.1 * st) % 1000 = (d4 + y.1.1 * st) % 1000
              rw [a]
          | 1, _ =>
            constructor
            · rintro ⟨a, b⟩
              have a : (d5 + z.1.2 * st) % 1000 = (d5 + y.1.2 * st) % 1000 := a
              have e : z.1.2 = y.1.2 := num_inj hstep q1.2.2.1 (by omega) q2.2.2.1 (by omega) a
              exact ⟨e, b⟩
            · rintro ⟨a, b⟩
              refine ⟨?_, b⟩
              have a : z.1.2 = y.1.2 := a
              show (d5 + z.1.2 * st) % 1000 = (d5 + y.1.2 * st) % 1000
              rw [a]
        rw [same, same]
        exact hb s _ h h' hs2 hh hh'
      · have zero : ∀ x : Int, (Z.countP fun z => decide (sdv (g z.1) s = v) && decide (z.2 = x)) = 0 := fun x => by
          rw [List.countP_eq_zero]
          intro z hz w
          simp only [Bool.and_eq_true, decide_eq_true_eq] at w
          exact ex ⟨z, hz, w.1⟩
        rw [zero, zero]
        omega
    · obtain ⟨y, hy, rfl⟩ := hback z hz
      have := hin y hy
      exact ⟨this.2.2.2.2.1, this.2.2.2.2.2⟩
theorem forR_some {α ρ : Type} {f : Unit → α → Out (Step ρ Unit)} {Q : ρ → Prop} : ∀ xs : List α, (∀ x ∈ xs, (∃ r, Q r ∧ f () x = pure (Step.rt r)) ∨ f () x = pure (Step.nx ())) → (∃ r, Q r ∧ forR f xs () = pure (Step.rt r)) ∨ forR f xs () = pure (Step.nx ())
  | [], _ => .inr rfl
  | x :: xs, h => by
    rcases h x (by simp) with ⟨r, q, e⟩ | e
    · refine .inl ⟨r, q, ?_⟩
      unfold forR
      rw [e]
      rfl
    · rcases forR_some xs fun y hy => h y (by simp [hy]) with ⟨r, q, e2⟩ | e2
      · refine .inl ⟨r, q, ?_⟩
        unfold forR
        rw [e]
        exact e2
      · refine .inr ?_
        unfold forR
        rw [e]
        exact e2
theorem forR_ex {α ρ β : Type} {f : Unit → α → Out (Step ρ Unit)} {g : Step ρ Unit → Out β} {Q : ρ → Prop} {P : Out β → Prop} {xs : List α} (h : ∀ x ∈ xs, (∃ r, Q r ∧ f () x = pure (Step.rt r)) ∨ f () x = pure (Step.nx ())) (h1 : ∀ r, Q r → P (g (Step.rt r))) (h2 : P (g (Step.nx ()))) : P (forR f xs () >>= g) := by
  rcases forR_some xs h with ⟨r, q, e⟩ | e
  · rw [e, pbind]
    exact h1 r q
  · rw [e, pbind]
    exact h2
theorem partner_ok {T : List (Int × Int)} {hues : List Int} (hn : hues.length = T.length) {a : Nat} (ha : a < T.length) {s : Nat} (hs2 : s < 2) : ∃ k : Nat, m_law_partner T hues (a : Int) (s : Int) = pure (k : Int) ∧ k < T.length := by
  rw [m_law_partner_eq]
  unfold b_law_partner
  rw [pbind]
  refine forR_ex (P := fun o => ∃ k : Nat, o = pure (k : Int) ∧ k < T.length) (Q := fun r : Int => ∃ k : Nat, k < T.length ∧ r = (k : Int)) (fun x hx => ?_) (fun r ⟨k, hk, e⟩ => ⟨k, by rw [e], hk⟩) ⟨a, rfl, ha⟩
  obtain ⟨q, rfl⟩ := Int.eq_ofNat_of_zero_le (upto_mem.mp hx).1
  have hk : (a + q) % T.length < T.length := Nat.mod_lt _ (by omega)
  have e0 : modO ((a : Int) + (q : Int)) (T.length : Int) = pure (((a + q) % T.length : Nat) : Int) := by
    rw [show (a : Int) + (q : Int) = ((a + q : Nat) : Int) by omega]
    exact modO_nat (by omega)
  generalize (a + q) % T.length = k at hk e0
  have h1 : hues[k]? = some hues[k] := List.getElem?_eq_getElem (by omega)
  have h2 : hues[a]? = some hues[a] := List.getElem?_eq_getElem (by omega)
  rw [e0, pbind, ed_at hk hs2, pbind, ed_at ha hs2, pbind, pbind]
  by_cases w : ed T k s = ed T a s
  · rw [if_pos (by simpa using w), idx_nat h1, pbind, idx_nat h2, pbind, pbind]
    by_cases y : hues[k] = hues[a]
    · exact .inr (by rw [if_neg (by simpa using y)])
    · exact .inl ⟨_, ⟨k, hk, rfl⟩, by rw [if_pos (by simpa using y)]; rfl⟩
  · exact .inr (by rw [if_neg (by simpa using w), pbind, if_neg (by decide)])

/-! MJ8: changed hues. -/
theorem changed_ok {T : List (Int × Int)} {c : Nat} {hues part : List Int} (hn : hues.length = T.length) (hpos : 0 < T.length) (hc : 0 < c) {p0 p1 p2 : Nat} (e0 : idx part 0 = pure (p0 : Int)) (e1 : idx part 1 = pure (p1 : Int)) (e2 : idx part 2 = pure (p2 : Int)) (hp0 : p0 < 9) :
    ∃ L, m_law_changed T (c : Int) hues part = pure L ∧ L.length = T.length := by
  rw [m_law_changed_eq]
  unfold b_law_changed
  have ha : p1 % T.length < T.length := Nat.mod_lt _ hpos
  rw [pbind, e0, e1, e2, pbind, pbind, modO_nat hpos, pbind]
  generalize p1 % T.length = a at ha
  have h2 : idx hues (a : Int) = pure hues[a] := idx_nat (List.getElem?_eq_getElem (by omega))
  have st : ∀ (L : List Int) (k : Nat) (x : Int), L.length = T.length → k < T.length → ∃ L', setO L (k : Int) x = pure L' ∧ L'.length = T.length := fun L k x h hk => ⟨_, setO_nat (by omega), by rw [List.length_set]; exact h⟩
  -- 0, 1
  have s1 : ∃ L1, ((((pure (p0 : Int) : Out Int) >>= fun t3 => (pure (decide (t3 = 0)) : Out Bool)) >>= fun t5 => if t5 = true then (pure true : Out Bool) else (pure (p0 : Int) : Out Int) >>= fun t4 => pure (decide (t4 = 1))) >>= fun c6 => if c6 = true then (
      (((((idx hues (a : Int)) >>= fun t8 => pure (t8 + 1)) >>= fun t9 => (pure (p2 : Int) : Out Int) >>= fun t10 => pure (t9 + t10)) >>= fun t11 => pure t11) >>= fun t12 => modO t12 (c : Int)) >>= fun a13 => (pure (a : Int)) >>= fun j14 => setO hues j14 a13 >>= fun changed =>
      pure changed)
      else (
      pure hues)) = pure L1 ∧ L1.length = T.length := by
    rw [pbind, pbind]
    by_cases w : p0 = 0 ∨ p0 = 1
    · obtain ⟨L', el, hl⟩ := st hues a ((hues[a] + 1 + (p2 : Int)) % (c : Int)) hn ha
      refine ⟨L', ?_, hl⟩
      by_cases w0 : p0 = 0
      · rw [if_pos (by simp; omega), pbind, if_pos rfl, h2, pbind, pbind, pbind, pbind, pbind, modO_ok (by omega), pbind, pbind, el, pbind]
      · rw [if_neg (by simp; omega), pbind, pbind, if_pos (by simp; omega), h2, pbind, pbind, pbind, pbind, pbind, modO_ok (by omega), pbind, pbind, el, pbind]
    · refine ⟨hues, ?_, hn⟩
      rw [if_neg (by simp; omega), pbind, pbind, if_neg (by simp; omega)]
  obtain ⟨L1, el1, hl1⟩ := s1
  rw [el1, pbind]
  have s2 : ∃ L2, (((pure (p0 : Int) : Out Int) >>= fun t15 => (pure (decide (t15 = 2)) : Out Bool)) >>= fun c16 => if c16 = true then (
      ((idx hues (a : Int)) >>= fun t18 => pure (t18 - (c : Int))) >>= fun a19 => (pure (a : Int)) >>= fun j20 => setO L1 j20 a19 >>= fun changed =>
      pure changed)
      else (
      pure L1)) = pure L2 ∧ L2.length = T.length := by
    rw [pbind, pbind]
    by_cases w : p0 = 2
    · obtain ⟨L', el, hl⟩ := st L1 a (hues[a] - (c : Int)) hl1 ha
      exact ⟨L', by rw [if_pos (by simp; omega), h2, pbind, pbind, pbind, el, pbind], hl⟩
    · exact ⟨L1, by rw [if_neg (by simp; omega)], hl1⟩
  obtain ⟨L2, el2, hl2⟩ := s2
  rw [el2, pbind]
  have s3 : ∃ L3, (((pure (p0 : Int) : Out Int) >>= fun t21 => (pure (decide (t21 = 3)) : Out Bool)) >>= fun c22 => if c22 = true then (
      ((idx hues (a : Int)) >>= fun t24 => pure (t24 + (c : Int))) >>= fun a25 => (pure (a : Int)) >>= fun j26 => setO L2 j26 a25 >>= fun changed =>
      pure changed)
      else (
      pure L2)) = pure L3 ∧ L3.length = T.length := by
    rw [pbind, pbind]
    by_cases w : p0 = 3
    · obtain ⟨L', el, hl⟩ := st L2 a (hues[a] + (c : Int)) hl2 ha
      exact ⟨L', by rw [if_pos (by simp; omega), h2, pbind, pbind, pbind, el, pbind], hl⟩
    · exact ⟨L2, by rw [if_neg (by simp; omega)], hl2⟩
  obtain ⟨L3, el3, hl3⟩ := s3
  rw [el3, pbind]
  have s4 : ∃ L4, (((pure (p0 : Int) : Out Int) >>= fun t27 => (pure (decide (t27 = 4)) : Out Bool)) >>= fun c28 => if c28 = true then (
      (((((pure (p2 : Int) : Out Int) >>= fun t30 => pure (1000000000000 * t30)) >>= fun t31 => pure ((-1) - t31)) >>= fun t33 => ((pure (p2 : Int) : Out Int) >>= fun t32 => pure ((c : Int) + t32)) >>= fun t34 => pure [-1, (c : Int), 1000000000000000000000000000000, t33, t34]) >>= fun t37 => (((pure (p2 : Int) : Out Int) >>= fun t35 => pure t35) >>= fun t36 => pure (t36 % 5)) >>= fun t38 => idx t37 t38) >>= fun a39 => (pure (a : Int)) >>= fun j40 => setO L3 j40 a39 >>= fun changed =>
      pure changed)
      else (
      pure L3)) = pure L4 ∧ L4.length = T.length := by
    rw [pbind, pbind]
    by_cases w : p0 = 4
    · obtain ⟨x, ex, _⟩ := idx_lt (xs := [-1, (c : Int), 1000000000000000000000000000000, (-1) - 1000000000000 * (p2 : Int), (c : Int) + (p2 : Int)]) (i := (p2 : Int) % 5) (by omega) (by simp; omega)
      obtain ⟨L', el, hl⟩ := st L3 a x hl3 ha
      exact ⟨L', by rw [if_pos (by simp; omega), pbind, pbind, pbind, pbind, pbind, pbind, pbind, pbind, pbind, ex, pbind, pbind, el, pbind], hl⟩
    · exact ⟨L3, by rw [if_neg (by simp; omega)], hl3⟩
  obtain ⟨L4, el4, hl4⟩ := s4
  rw [el4, pbind]
  have s5 : ∃ L5, ((((pure (p0 : Int) : Out Int) >>= fun t41 => (pure (decide (t41 = 5)) : Out Bool)) >>= fun t43 => if t43 = true then (pure true : Out Bool) else (pure (p0 : Int) : Out Int) >>= fun t42 => pure (decide (t42 = 6))) >>= fun c44 => if c44 = true then (
      (((pure (p0 : Int) : Out Int) >>= fun t46 => pure (t46 - 5)) >>= fun t47 => m_law_partner T hues (a : Int) t47) >>= fun other =>
      (idx hues other) >>= fun a48 => (pure (a : Int)) >>= fun j49 => setO L4 j49 a48 >>= fun changed =>
      (idx hues (a : Int)) >>= fun a50 => (pure other) >>= fun j51 => setO changed j51 a50 >>= fun changed =>
      pure changed)
      else (
      pure L4)) = pure L5 ∧ L5.length = T.length := by
    rw [pbind, pbind]
    by_cases w : p0 = 5 ∨ p0 = 6
    · obtain ⟨k, ek, hk⟩ := partner_ok hn ha (s := p0 - 5) (by omega)
      have hk2 : idx hues (k : Int) = pure hues[k] := idx_nat (List.getElem?_eq_getElem (by omega))
      obtain ⟨L', el, hl⟩ := st L4 a hues[k] hl4 ha
      obtain ⟨L'', el', hl'⟩ := st L' k hues[a] hl hk
      refine ⟨L'', ?_, hl'⟩
      have es : (p0 : Int) - 5 = ((p0 - 5 : Nat) : Int) := by omega
      by_cases w0 : p0 = 5
      · rw [if_pos (by simp; omega), pbind, if_pos rfl, pbind, pbind, es, ek, pbind, hk2, pbind, pbind, el, pbind, h2, pbind, pbind, el', pbind]
      · rw [if_neg (by simp; omega), pbind, pbind, if_pos (by simp; omega), pbind, pbind, es, ek, pbind, hk2, pbind, pbind, el, pbind, h2, pbind, pbind, el', pbind]
    · refine ⟨L4, ?_, hl4⟩
      rw [if_neg (by simp; omega), pbind, pbind, if_neg (by simp; omega)]
  obtain ⟨L5, el5, hl5⟩ := s5
  rw [el5, pbind]
  have s6 : ∃ L6, (((pure (p0 : Int) : Out Int) >>= fun t52 => (pure (decide (t52 = 7)) : Out Bool)) >>= fun c53 => if c53 = true then (
      (((((pure (p1 : Int) : Out Int) >>= fun t55 => pure (t55 / 3)) >>= fun t56 => (pure (p2 : Int) : Out Int) >>= fun t57 => pure (t56 + t57)) >>= fun t58 => pure t58) >>= fun t59 => modO t59 (T.length : Int)) >>= fun other =>
      (idx hues other) >>= fun a60 => (pure (a : Int)) >>= fun j61 => setO L5 j61 a60 >>= fun changed =>
      (idx hues (a : Int)) >>= fun a62 => (pure other) >>= fun j63 => setO changed j63 a62 >>= fun changed =>
      pure changed)
      else (
      pure L5)) = pure L6 ∧ L6.length = T.length := by
    rw [pbind, pbind]
    by_cases w : p0 = 7
    · have hk : (p1 / 3 + p2) % T.length < T.length := Nat.mod_lt _ hpos
      have em : (p1 : Int) / 3 + (p2 : Int) = ((p1 / 3 + p2 : Nat) : Int) := by omega
      have ek := modO_nat (x := p1 / 3 + p2) hpos
      rw [← em] at ek
      generalize (p1 / 3 + p2) % T.length = k at hk ek
      have hk2 : idx hues (k : Int) = pure hues[k] := idx_nat (List.getElem?_eq_getElem (by omega))
      obtain ⟨L', el, hl⟩ := st L5 a hues[k] hl5 ha
      obtain ⟨L'', el', hl'⟩ := st L' k hues[a] hl hk
      exact ⟨L'', by rw [if_pos (by simp; omega), pbind, pbind, pbind, pbind, pbind, ek, pbind, hk2, pbind, pbind, el, pbind, h2, pbind, pbind, el', pbind], hl'⟩
    · exact ⟨L5, by rw [if_neg (by simp; omega)], hl5⟩
  obtain ⟨L6, el6, hl6⟩ := s6
  rw [el6, pbind]
  have em : (T.length : Int) - 1 = ((T.length - 1 : Nat) : Int) := by omega
  rw [pbind, pbind]
  by_cases w : p0 = 8
  · have hk2 : idx hues ((T.length - 1 : Nat) : Int) = pure hues[T.length - 1] := idx_nat (List.getElem?_eq_getElem (by omega))
    obtain ⟨L', el, hl⟩ := st L6 (T.length - 1) ((hues[T.length - 1] + 1 + (p2 : Int)) % (c : Int)) hl6 (by omega)
    exact ⟨L', by rw [if_pos (by simp; omega), em, hk2, pbind, pbind, pbind, pbind, pbind, modO_ok (by omega), pbind, pbind, el, pbind, pbind], hl⟩
  · exact ⟨L6, by rw [if_neg (by simp; omega), pbind], hl6⟩

/-! MJ9: the law of k18. -/
theorem frz_lp (E : List (Int × Int)) : asTup (asTup asInt) (frzD ((cLst (cT2 cInt cInt)).d E)) = pure (E.map fun e => [e.1, e.2]) := by
  have e : frzD ((cLst (cT2 cInt cInt)).d E) = .tuple (E.map fun e => .tuple [.int e.1, .int e.2]) := by
    show frzD (.list (E.map (cT2 cInt cInt).d)) = _
    rw [frzD, frzDs_map, List.map_map]
    congr 1
  rw [e]
  show asAll (asTup asInt) _ = _
  rw [asAll_map (h := fun e => [e.1, e.2]) E fun e _ => rfl]
theorem whole_ok (x : Int) : m_law_whole x = pure true := by
  rw [m_law_whole_eq]
  rfl
theorem stepE {T : List (Int × Int)} {c : Nat} {hues : List Int} (hn : hues.length = T.length) (hn2 : T.length < 16777216) (hc0 : 0 < c) (hc : c ≤ 16777216) : ((m_law_even T (c : Int) hues) >>= fun t => m_law_asked T (c : Int) hues t) = pure true := by
  obtain ⟨b, e1, e2, _⟩ := judge hn hn2 hc0 hc
  rw [e1, pbind, asked_ok e2]
theorem returned_ok (ns : List Int) {row : List Int} (D : Dig row [30, 4, 16, 100000, 1000, 1000, 6, 24, 33, 9, 9, 9, 30]) : m_law_returned ns row = pure true := by
  obtain ⟨d3, i3, b3⟩ := D.nat 3 (s := 100000) rfl
  obtain ⟨d4, i4, _⟩ := D.nat 4 (s := 1000) rfl
  obtain ⟨d5, i5, _⟩ := D.nat 5 (s := 1000) rfl
  obtain ⟨d6, i6, b6⟩ := D.nat 6 (s := 6) rfl
  obtain ⟨d7, i7, b7⟩ := D.nat 7 (s := 24) rfl
  obtain ⟨d8, i8, b8⟩ := D.nat 8 (s := 33) rfl
  obtain ⟨d9, i9, b9⟩ := D.nat 9 (s := 9) rfl
  obtain ⟨d10, i10, b10⟩ := D.nat 10 (s := 9) rfl
  obtain ⟨d11, i11, b11⟩ := D.nat 11 (s := 9) rfl
  obtain ⟨d12, i12, b12⟩ := D.nat 12 (s := 30) rfl
  have i3' : idx row 3 = pure (d3 : Int) := i3
  have i4' : idx row 4 = pure (d4 : Int) := i4
  have i5' : idx row 5 = pure (d5 : Int) := i5
  have i6' : idx row 6 = pure (d6 : Int) := i6
  have i7' : idx row 7 = pure (d7 : Int) := i7
  have i8' : idx row 8 = pure (d8 : Int) := i8
  have i9' : idx row 9 = pure (d9 : Int) := i9
  have i10' : idx row 10 = pure (d10 : Int) := i10
  have i11' : idx row 11 = pure (d11 : Int) := i11
  have i12' : idx row 12 = pure (d12 : Int) := i12
  obtain ⟨st, hst, hstep⟩ := step_ok (s := (d6 : Int)) (by omega) (by omega)
  have st0 : 0 < st ∧ st < 1000 := by omega
  rw [m_law_returned_eq]
  unfold b_law_returned
  have ec : (1 : Int) + (d7 : Int) = ((d7 + 1 : Nat) : Int) := by omega
  rw [i7', pbind, pbind, ec, pbind, pbind]
  refine for_ex (P := fun o => o = pure true) (fun j (s : List Int) => s.length = 8 * j) rfl (fun i s x hx hsz => ?_) (fun s hsz => ?_)
  · obtain ⟨rfl, hi⟩ := upto_at hx
    obtain ⟨cell, ec⟩ := cell_ok ns (7 + (i : Int)) (by omega) (by omega)
    obtain ⟨L, eL, hL, _⟩ := digits_ok cell [1000, 1000, 1000, 1000, 1000, 1000, 1000, 1000] (by decide) (by decide)
    have hL : L.length = 8 := hL
    rw [ec, pbind, eL, pbind, catO_ok (by omega), pbind]
    exact ⟨_, rfl, by rw [List.length_append]; omega⟩
  · have hsz : s.length = 64 := by rw [hsz, upto_len]
    rw [pbind, i8', pbind, rangeO_nat (by omega), pbind]
    refine for_ex (P := fun o => o = pure true) (fun j (q : List (Int × Int)) => q.length = j) rfl (fun i q x hx hq => ?_) (fun E hE => ?_)
    · obtain ⟨rfl, hi⟩ := upto_at hx
      have k1 : idx s (2 * (i : Int)) = pure s[2 * i] := by
        rw [show 2 * (i : Int) = ((2 * i : Nat) : Int) by omega]
        exact idx_nat (List.getElem?_eq_getElem (by omega))
      have k2 : idx s (2 * (i : Int) + 1) = pure s[2 * i + 1] := by
        rw [show 2 * (i : Int) + 1 = ((2 * i + 1 : Nat) : Int) by omega]
        exact idx_nat (List.getElem?_eq_getElem (by omega))
      rw [i4', pbind, i6', pbind, k1, pbind, pbind, i9', pbind, pbind, modO_ok (by omega), pbind, number_ok hst st0.1 st0.2, pbind, i5', pbind, pbind, k2, pbind, pbind, i10', pbind, pbind, modO_ok (by omega), pbind, number_ok hst st0.1 st0.2, pbind, pbind, appO_ok (by omega), pbind]
      exact ⟨_, rfl, by rw [List.length_append]; simp; omega⟩
    · rw [upto_len] at hE
      obtain ⟨col, ecol, P⟩ := even_ok (c := d7 + 1) (n := E.length) (T := E) (by omega) (by omega) rfl (by omega) (dn_ok (cLst (cT2 cInt cInt)) E (by decide)) (frz_lp E)
      have ev : ∀ s, s < 2 → Ev E E.length col (d7 + 1) s := fun s hs2 e he h h' hh hh' => by
        have q1 := (even_count (by omega) P s hs2 (ed E e s) h hh).2
        have q2 := (even_count (by omega) P s hs2 (ed E e s) h' hh').1
        have q3 : ((hs E E.length col s (ed E e s)).length + (d7 + 1) - 1) / (d7 + 1) ≤ ((hs E E.length col s (ed E e s)).length + (d7 + 1)) / (d7 + 1) := Nat.div_le_div_right (by omega)
        rw [Nat.add_div_right _ (by omega)] at q3
        show (hs E E.length col s (ed E e s)).count h ≤ (hs E E.length col s (ed E e s)).count h' + 1
        omega
      obtain ⟨b1, e1, w1⟩ := even_law (T := E) rfl (by omega) (show 0 < d7 + 1 by omega) (by omega) P.lt
      obtain ⟨b2, e2, w2⟩ := hues_ok (T := E) rfl (by omega) (show 0 < d7 + 1 by omega) (by omega) P.lt
      have hb1 : b1 = true := w1.mpr ⟨ev 0 (by decide), ev 1 (by decide)⟩
      have hb2 : b2 = true := w2.mpr ⟨ev 0 (by decide), ev 1 (by decide)⟩
      subst hb1 hb2
      have hcl : (colI E.length col).length = E.length := by simp
      rw [ecol, pbind, if_neg (by decide), pbind, if_neg (by simp), pbind, forR_nx]
      · rw [pbind]
        dsimp only
        rw [eqT2, eqT3, eqT5, e1, pbind, pbind, if_neg (by decide), asked_ok e2, pbind, pbind, if_neg (by decide), pbind]
        by_cases z : E.length = 0
        · rw [if_pos (by simp [z])]
        · rw [if_neg (by simpa using z), i11', pbind, i3', pbind, i12', pbind, pbind]
          obtain ⟨L, eL, hL⟩ := changed_ok (T := E) (c := d7 + 1) (hues := colI E.length col) (part := [(d11 : Int), (d3 : Int), (d12 : Int)]) hcl (by omega) (by omega) (p0 := d11) (p1 := d3) (p2 := d12) rfl rfl rfl b11
          rw [eL, pbind]
          exact stepE hL (by omega) (by omega) (by omega)
      · intro x _
        rw [whole_ok, pbind, pbind, if_neg (by decide)]
theorem math (ns : List Int) (h : ns.length ≤ 63) : m_law ns = pure true := by
  rw [m_law_eq]
  unfold b_law
  obtain ⟨cl, hcl⟩ := cell_ok ns 0 (by omega) (by omega)
  obtain ⟨row, hrow, D⟩ := digits_ok cl [30, 4, 16, 100000, 1000, 1000, 6, 24, 33, 9, 9, 9, 30] (by decide) (by decide)
  have D : Dig row [30, 4, 16, 100000, 1000, 1000, 6, 24, 33, 9, 9, 9, 30] := D
  obtain ⟨d0, i0, b0⟩ := D.nat 0 (s := 30) rfl
  have i0' : idx row 0 = pure (d0 : Int) := i0
  rw [hcl, pbind, hrow, pbind, i0', pbind, pbind]
  have hcount : ∃ c : Nat, 0 < c ∧ c ≤ 99 ∧ (((pure (d0 : Int) : Out Int) >>= fun t3 => (pure (decide (24 ≤ t3)) : Out Bool)) >>= fun c4 => if c4 = true then (
      (((pure (d0 : Int) : Out Int) >>= fun t6 => pure (t6 - 24)) >>= fun t7 => idx [2, 3, 25, 99, 2, 60] t7) >>= fun count =>
      (pure count : Out Int))
      else (
      pure (1 + (d0 : Int)))) = pure (c : Int) := by
    rw [pbind, pbind]
    by_cases z : 24 ≤ d0
    · rw [if_pos (by simp; omega), pbind, pbind]
      have : d0 = 24 ∨ d0 = 25 ∨ d0 = 26 ∨ d0 = 27 ∨ d0 = 28 ∨ d0 = 29 := by omega
      rcases this with w | w | w | w | w | w <;> subst w
      · exact ⟨2, by omega, by omega, rfl⟩
      · exact ⟨3, by omega, by omega, rfl⟩
      · exact ⟨25, by omega, by omega, rfl⟩
      · exact ⟨99, by omega, by omega, rfl⟩
      · exact ⟨2, by omega, by omega, rfl⟩
      · exact ⟨60, by omega, by omega, rfl⟩
    · exact ⟨1 + d0, by omega, by omega, by rw [if_neg (by simp; omega)]; rfl⟩
  obtain ⟨c, hc0, hc1, ecount⟩ := hcount
  obtain ⟨Z0, l, r, eb, k1, k2, k3, k4, k5, k6⟩ := built_ok ns D hc0
  obtain ⟨Z, em, m1, m2, m3⟩ := mixed_ok D k2 k3 k4 k1 k6
  have hfl : (fs Z).length = Z.length := List.length_map _
  have hsl : (sn Z).length = Z.length := List.length_map _
  have hh : ∀ x ∈ sn Z, 0 ≤ x ∧ x < (c : Int) := fun x hx => by
    obtain ⟨z, hz, rfl⟩ := List.mem_map.mp hx
    exact m3 z hz
  have ev : ∀ s, s < 2 → Ev (fs Z) (fs Z).length (colOf (sn Z)) c s := fun s hs2 e he a b ha hb => by
    show (hs (fs Z) (fs Z).length (colOf (sn Z)) s (ed (fs Z) e s)).count a ≤ (hs (fs Z) (fs Z).length (colOf (sn Z)) s (ed (fs Z) e s)).count b + 1
    rw [hfl, cnt_hs m3, cnt_hs m3]
    exact m2 s _ a b hs2 ha hb
  obtain ⟨b, _, e2, w2⟩ := judge (T := fs Z) (c := c) (hues := sn Z) (by omega) (by omega) hc0 (by omega)
  have hb : b = true := (w2 hh).mpr ⟨ev 0 (by decide), ev 1 (by decide)⟩
  subst hb
  obtain ⟨b', _, e3, w3⟩ := judge (T := []) (c := c) (hues := []) rfl (by decide) hc0 (by omega)
  have hb : b' = true := (w3 (by simp)).mpr ⟨fun e he => by simp at he, fun e he => by simp at he⟩
  subst hb
  have e3 : m_hues_even (prs []) (c : Int) [] = pure true := e3
  rw [ecount, pbind, eb, pbind, em, pbind, pbind, pbind, asked_ok e2, pbind, pbind, if_neg (by decide), asked_ok e3, pbind, pbind, if_neg (by decide)]
  obtain ⟨c6, hc6⟩ := cell_ok ns 6 (by omega) (by omega)
  obtain ⟨c5, hc5⟩ := cell_ok ns 5 (by omega) (by omega)
  obtain ⟨A, eA, DA⟩ := digits_ok c6 [9, 2000, 60, 9, 2000, 60, 9, 2000, 60, 9, 2000, 60] (by decide) (by decide)
  obtain ⟨B, eB, DB⟩ := digits_ok c5 [9, 2000, 60, 9, 2000, 60, 9, 2000, 60, 9, 2000, 60] (by decide) (by decide)
  have DA : Dig A [9, 2000, 60, 9, 2000, 60, 9, 2000, 60, 9, 2000, 60] := DA
  have DB : Dig B [9, 2000, 60, 9, 2000, 60, 9, 2000, 60, 9, 2000, 60] := DB
  have lA : A.length = 12 := DA.1
  have lB : B.length = 12 := DB.1
  have szs : ∀ j, j < 12 → ∃ s : Nat, ([9, 2000, 60, 9, 2000, 60, 9, 2000, 60, 9, 2000, 60] : List Int)[j]? = some (s : Int) ∧ (j % 3 = 0 → s = 9) := fun j hj => by
    have : j = 0 ∨ j = 1 ∨ j = 2 ∨ j = 3 ∨ j = 4 ∨ j = 5 ∨ j = 6 ∨ j = 7 ∨ j = 8 ∨ j = 9 ∨ j = 10 ∨ j = 11 := by omega
    rcases this with w | w | w | w | w | w | w | w | w | w | w | w <;> subst w
    all_goals first | exact ⟨9, rfl, fun _ => rfl⟩ | exact ⟨2000, rfl, by decide⟩ | exact ⟨60, rfl, by decide⟩
  have pat : ∀ j, j < 24 → ∃ d : Nat, (A ++ B)[j]? = some (d : Int) ∧ (j % 3 = 0 → d < 9) := fun j hj => by
    by_cases w : j < 12
    · obtain ⟨s, hs1, hs2⟩ := szs j w
      obtain ⟨d, e, _, a0, a1⟩ := DA.get j hs1
      obtain ⟨n, rfl⟩ := Int.eq_ofNat_of_zero_le a0
      exact ⟨n, by rw [List.getElem?_append_left (by omega)]; exact e, fun z => by have := hs2 z; omega⟩
    · obtain ⟨s, hs1, hs2⟩ := szs (j - 12) (by omega)
      obtain ⟨d, e, _, a0, a1⟩ := DB.get (j - 12) hs1
      obtain ⟨n, rfl⟩ := Int.eq_ofNat_of_zero_le a0
      exact ⟨n, by rw [List.getElem?_append_right (by omega), lA]; exact e, fun z => by have := hs2 (by omega); omega⟩
  have lAB : (A ++ B).length = 24 := by rw [List.length_append]; omega
  rw [hc6, pbind, eA, pbind, hc5, pbind, eB, pbind, catO_ok (by omega), pbind, pbind, forR_nx]
  · rw [pbind]
    dsimp only
    obtain ⟨q2, hq2, _⟩ := pat 2 (by omega)
    have hq2' : idx (A ++ B) 2 = pure (q2 : Int) := idx_nat hq2
    have e1 : mapO (fun (edge24 : Int × Int) => ((idx (A ++ B) 2) >>= fun t25 => (pure t25 : Out Int)) >>= fun t26 => modO t26 (c : Int)) (fs Z) = pure ((fs Z).map fun _ => ((q2 % c : Nat) : Int)) := mapO_ok _ fun _ _ => by
      rw [hq2', pbind, pbind, modO_nat hc0]
    rw [pbind, e1, pbind, stepE (by simp) (by omega) hc0 (by omega), pbind, pbind, if_neg (by decide), pbind, forR_nx]
    · rw [pbind]
      dsimp only
      rw [eqT6, e2, pbind, if_pos (by decide), returned_ok ns D]
    · intro x hx
      have : ∃ c' : Nat, x = (c' : Int) ∧ 0 < c' ∧ c' ≤ 1000 := by
        rcases List.mem_cons.mp hx with w | w
        · exact ⟨c + 1, by omega, by omega, by omega⟩
        · have w : x = max 1 ((c : Int) - 1) := by simpa using w
          exact ⟨max 1 (c - 1), by omega, by omega, by omega⟩
      obtain ⟨c', rfl, g0, g1⟩ := this
      rw [stepE (by omega) (by omega) g0 (by omega), pbind, pbind, if_neg (by decide)]
  · intro x hx
    obtain ⟨p, q⟩ := upto_mem.mp hx
    obtain ⟨k, rfl⟩ := Int.eq_ofNat_of_zero_le p
    have hk : k < 8 := by omega
    obtain ⟨p0, f0, g0⟩ := pat (3 * k) (by omega)
    obtain ⟨p1, f1, _⟩ := pat (3 * k + 1) (by omega)
    obtain ⟨p2, f2, _⟩ := pat (3 * k + 2) (by omega)
    have ecut : cut (A ++ B) (some (3 * (k : Int))) (some ((3 * (k : Int)) + 3)) = [(p0 : Int), (p1 : Int), (p2 : Int)] := by
      rw [show 3 * (k : Int) = ((3 * k : Nat) : Int) by omega, show ((3 * k : Nat) : Int) + 3 = ((3 * k + 3 : Nat) : Int) by omega, cut_mid, lAB, Nat.min_eq_left (by omega), Nat.min_eq_left (by omega), show 3 * k + 3 - 3 * k = 3 by omega]
      apply List.ext_getElem?
      intro i
      rw [List.getElem?_take]
      match i with
      | 0 => rw [if_pos (by decide), List.getElem?_drop]; exact f0
      | 1 => rw [if_pos (by decide), List.getElem?_drop]; exact f1
      | 2 => rw [if_pos (by decide), List.getElem?_drop]; exact f2
      | i + 3 => rw [if_neg (by omega)]; rfl
    obtain ⟨L, eL, hL⟩ := changed_ok (T := fs Z) (c := c) (hues := sn Z) (part := [(p0 : Int), (p1 : Int), (p2 : Int)]) (by omega) (by omega) hc0 (p0 := p0) (p1 := p1) (p2 := p2) rfl rfl rfl (g0 (by omega))
    rw [ecut, eL, pbind, stepE hL (by omega) hc0 (by omega), pbind, pbind, if_neg (by decide)]

end My
set_option maxHeartbeats 0
open PySem PySem.W PySem.Calls PyProof.Rows
theorem PySem.Challenge.cw_sloweralone_k18_even_hues_judge_holds : PySem.Challenge.rw_sloweralone_k18_even_hues_judge.Holds := by
  w_on; o_law
  refine HandSHeadRun.head_any (r := OpenLaw.row PySem.Challenge.rw_sloweralone_k18_even_hues_judge) (q := view (OpenLaw.row PySem.Challenge.rw_sloweralone_k18_even_hues_judge).prog [28]) (H := My.hk) (ob := My.ob) (M := 2000) (loose := My.loose) (d := HandSHeadRun.topDef (OpenLaw.row PySem.Challenge.rw_sloweralone_k18_even_hues_judge).prog 28) (kwd := []) My.ob_eq
    (by kernel_rfl) (fun s => by kernel_rfl) My.run (by kernel_rfl) (by kernel_rfl) (by kernel_rfl) (by rfl) (by first | assumption | decide +kernel) (by decide +kernel) ⟨rfl, rfl, rfl, rfl, rfl, by decide +kernel⟩ ?hw ?hc
  case hw => w_witness2
  case hc =>
    refine SL.walk_law (l := PySem.Challenge.rw_sloweralone_k18_even_hues_judge) (n := 63) (k := 12) (x := "script") (m := My.m_law) rfl (by decide) (by kernel_rfl) ⟨rfl, by decide, by decide⟩ ?F My.math
    intro w mg fa h Y G hmg0
    obtain ⟨K, KX, c⟩ := Y
    have hmg : mg ("law" : PySem.Str) = some (.ref fa) := by
      have e : (HandSHeadRun.topDef (OpenLaw.row PySem.Challenge.rw_sloweralone_k18_even_hues_judge).prog 28).name = ("law" : PySem.Str) := by kernel_rfl
      rw [← e]
      exact hmg0
    obtain ⟨fd, hb, hF⟩ := My.facts (P := (PySem.Challenge.rw_sloweralone_k18_even_hues_judge).prog) (w := w) KX G hmg c
    exact ⟨K, fd, KX, hb, hF⟩
