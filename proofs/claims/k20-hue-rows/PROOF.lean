import PyProof.Rows.All
import Wide.All
import OpenK.AllK
import Wide.FinOn
import HandS.ForMost
import HandS.ForExc
import HandS.Defaults
import HandS.Walk
import HandS.IsInst
import HandS.SortInts
import HandS.TupAny
import HandS.Style
import HandS.Wide
import HandS.Iter
import HandS.Strs
import HandS.SetFor
import KE.GoesEnum
import HandS.SortOrd
import HandS.TupSets
import HandS.SetKeys
import HandS.Head0
import HandS.Head1
import HandS.Head2
import HandS.HeadEnd
import HandS.HeadHook1
import HandS.HeadHook2
import PySem.Challenge.RW_sloweralone_k20_hue_rows_whole
set_option Elab.async false
set_option linter.all false
set_option maxRecDepth 100000
set_option maxHeartbeats 2000000
/-! SLa: the typed layer, its core: outcomes, types of data, the state by slots, the judgements. -/
namespace SL
open PySem PySem.Spec PyProof.Rows L2

/-! ### errors, outcomes -/
structure Err where
  cls : Str
  fs : List (Str × PyData)
inductive Out (α : Type) where
  | ok (a : α) | err (x : Err) | stuck
def Out.bind {α β : Type} (m : Out α) (f : α → Out β) : Out β := match m with
  | .ok a => f a
  | .err x => .err x
  | .stuck => .stuck
instance : Monad Out where
  pure a := .ok a
  bind := Out.bind
theorem bind_ok {α β : Type} (a : α) (f : α → Out β) : (Out.ok a >>= f) = f a := rfl
theorem pure_b {α β : Type} (a : α) (f : α → Out β) : ((pure a : Out α) >>= f) = f a := rfl
theorem bind_stuck {α β : Type} (f : α → Out β) : ((Out.stuck : Out α) >>= f) = .stuck := rfl
theorem bind_err {α β : Type} (x : Err) (f : α → Out β) : ((Out.err x : Out α) >>= f) = .err x := rfl
theorem pure_ok {α : Type} (a : α) : (pure a : Out α) = .ok a := rfl
theorem bind_as {α β γ : Type} (m : Out α) (f : α → Out β) (g : β → Out γ) : ((m >>= f) >>= g) = (m >>= fun a => f a >>= g) := by cases m <;> rfl
/-- what is wanted of an outcome -/
def Post {α : Type} (m : Out α) (P : α → Prop) (R : Err → Prop) : Prop := match m with
  | .ok a => P a
  | .err x => R x
  | .stuck => False
theorem Post.bind {α β : Type} {m : Out α} {f : α → Out β} {P : β → Prop} {R : Err → Prop} (h : Post (m >>= f) P R) : Post m (fun a => Post (f a) P R) R := by
  cases m with
  | ok a => exact h
  | err x => exact h
  | stuck => exact h
theorem Post.mono {α : Type} {m : Out α} {P P' : α → Prop} {R R' : Err → Prop} (h : Post m P R) (hp : ∀ a, P a → P' a) (hr : ∀ x, R x → R' x) : Post m P' R' := by
  cases m with
  | ok a => exact hp a h
  | err x => exact hr x h
  | stuck => exact h
theorem Post.imp {α : Type} {m : Out α} {P P' : α → Prop} {R : Err → Prop} (h : Post m P R) (hp : ∀ a, P a → P' a) : Post m P' R := h.mono hp fun _ q => q

/-! ### steps of the two heaps: F what is fixed for good, H all that is tracked -/
structure Stp (F H F' H' : Hp) : Prop where
  ff : Same F F'
  fh : Same F' H'
  hh : Same H H'
  old : ∀ a, F a = none → H a ≠ none → F' a = none
theorem Stp.refl {F H : Hp} (h : Same F H) : Stp F H F H := ⟨.refl _, h, .refl _, fun _ e _ => e⟩
theorem same_ne {H H' : Hp} (s : Same H H') {a : Addr} (h : H a ≠ none) : H' a ≠ none := by
  cases e : H a with
  | none => exact absurd e h
  | some o =>
    rw [s a o e]
    exact fun z => nomatch z
theorem Stp.trans {F H F1 H1 F2 H2 : Hp} (a : Stp F H F1 H1) (b : Stp F1 H1 F2 H2) : Stp F H F2 H2 :=
  ⟨a.ff.trans b.ff, b.fh, a.hh.trans b.hh, fun c e n => b.old c (a.old c e n) (same_ne a.hh n)⟩
/-- .. where the addresses of W may have been written -/
structure SW (W : Addr → Prop) (F H F' H' : Hp) : Prop where
  ff : Same F F'
  fh : Same F' H'
  hh : ∀ a o, H a = some o → ¬ W a → H' a = some o
  there : ∀ a, H a ≠ none → H' a ≠ none
  old : ∀ a, F a = none → H a ≠ none → F' a = none
theorem SW.refl {W : Addr → Prop} {F H : Hp} (h : Same F H) : SW W F H F H := ⟨.refl _, h, fun _ _ e _ => e, fun _ e => e, fun _ e _ => e⟩
theorem SW.stp {W : Addr → Prop} {F H F1 H1 F2 H2 : Hp} (a : SW W F H F1 H1) (b : Stp F1 H1 F2 H2) : SW W F H F2 H2 :=
  ⟨a.ff.trans b.ff, b.fh, fun c o e n => b.hh c o (a.hh c o e n), fun c n => same_ne b.hh (a.there c n), fun c e n => b.old c (a.old c e n) (a.there c n)⟩
theorem Stp.sw {W : Addr → Prop} {F H F' H' : Hp} (a : Stp F H F' H') : SW W F H F' H' := ⟨a.ff, a.fh, fun c o e _ => a.hh c o e, fun _ n => same_ne a.hh n, a.old⟩
theorem SW.pure {F H F' H' : Hp} (a : SW (fun _ => False) F H F' H') : Stp F H F' H' := ⟨a.ff, a.fh, fun c o e => a.hh c o e id, a.old⟩
/-- a new object, fixed at once -/
theorem Stp.new {F H : Hp} {p : Addr} {o : HO} (s : Same F H) (n : H p = none) : Stp F H (upd F p o) (upd H p o) := by
  have nf : F p = none := s.free n
  refine ⟨fun a u e => ?_, fun a u e => ?_, fun a u e => ?_, fun a e m => ?_⟩
  · rw [upd_ne (ne_of_none e nf)]
    exact e
  · by_cases h : a = p
    · subst h
      rw [upd_same] at e ⊢
      exact e
    · rw [upd_ne h] at e ⊢
      exact s a u e
  · rw [upd_ne (ne_of_none e n)]
    exact e
  · have h : a ≠ p := fun z => by
      rw [z] at m
      exact m n
    rw [upd_ne h]
    exact e
/-- a new object, not fixed -/
theorem Stp.newH {F H : Hp} {p : Addr} {o : HO} (s : Same F H) (n : H p = none) : Stp F H F (upd H p o) := by
  refine ⟨.refl _, fun a u e => ?_, fun a u e => ?_, fun _ e _ => e⟩
  · rw [upd_ne (ne_of_none (s a u e) n)]
    exact s a u e
  · rw [upd_ne (ne_of_none e n)]
    exact e
theorem seqT {K : PySem.W.Frag} {H H' : Hp} {a : Addr} {xs : List V} (e : Same H H') (h : SqT K H a xs) : SqT K H' a xs := by
  rcases h with (h | ⟨o, h⟩) | h
  · exact .inl (.inl (e _ _ h))
  · exact .inl (.inr ⟨o, e _ _ h⟩)
  · exact .inr h

/-! ### relations of values and data -/
/-- by both heaps -/
structure Rl (α : Type) where
  rel : PySem.W.Frag → Hp → Hp → V → α → Prop
  mono : ∀ {K : PySem.W.Frag} {F H F' H' : Hp} {v : V} {a : α}, Stp F H F' H' → rel K F H v a → rel K F' H' v a
/-- by what is fixed alone -/
structure Ty (α : Type) where
  rel : PySem.W.Frag → Hp → V → α → Prop
  mono : ∀ {K : PySem.W.Frag} {F F' : Hp} {v : V} {a : α}, Same F F' → rel K F v a → rel K F' v a
def Ty.rl {α : Type} (T : Ty α) : Rl α := ⟨fun K F _ v a => T.rel K F v a, fun s h => T.mono s.ff h⟩
/-- pointwise -/
inductive Fa2 {α : Type} (R : V → α → Prop) : List V → List α → Prop where
  | nil : Fa2 R [] []
  | cons {v : V} {a : α} {vs : List V} {as : List α} : R v a → Fa2 R vs as → Fa2 R (v :: vs) (a :: as)
theorem Fa2.imp {α : Type} {R R' : V → α → Prop} {vs : List V} {as : List α} (h : Fa2 R vs as) (f : ∀ v a, R v a → R' v a) : Fa2 R' vs as := by
  induction h with
  | nil => exact .nil
  | cons r _ ih => exact .cons (f _ _ r) ih
theorem Fa2.len {α : Type} {R : V → α → Prop} {vs : List V} {as : List α} (h : Fa2 R vs as) : vs.length = as.length := by
  induction h with
  | nil => rfl
  | cons _ _ ih => rw [List.length_cons, List.length_cons, ih]
theorem Fa2.get {α : Type} {R : V → α → Prop} {vs : List V} {as : List α} (h : Fa2 R vs as) : ∀ {i : Nat} {a : α}, as[i]? = some a → ∃ v, vs[i]? = some v ∧ R v a := by
  induction h with
  | nil => intro i a e; simp at e
  | cons r _ ih =>
    intro i a e
    cases i with
    | zero => simp at e; subst e; exact ⟨_, rfl, r⟩
    | succ i => simpa using ih (by simpa using e)
theorem Fa2.getV {α : Type} {R : V → α → Prop} {vs : List V} {as : List α} (h : Fa2 R vs as) : ∀ {i : Nat} {v : V}, vs[i]? = some v → ∃ a, as[i]? = some a ∧ R v a := by
  induction h with
  | nil => intro i a e; simp at e
  | cons r _ ih =>
    intro i a e
    cases i with
    | zero => simp at e; subst e; exact ⟨_, rfl, r⟩
    | succ i => simpa using ih (by simpa using e)
theorem Fa2.app {α : Type} {R : V → α → Prop} {vs ws : List V} {as bs : List α} (h : Fa2 R vs as) (g : Fa2 R ws bs) : Fa2 R (vs ++ ws) (as ++ bs) := by
  induction h with
  | nil => exact g
  | cons r _ ih => exact .cons r ih
theorem Fa2.take {α : Type} {R : V → α → Prop} {vs : List V} {as : List α} (h : Fa2 R vs as) : ∀ n : Nat, Fa2 R (vs.take n) (as.take n) := by
  induction h with
  | nil => intro n; simpa using Fa2.nil
  | cons r _ ih =>
    intro n
    cases n with
    | zero => exact .nil
    | succ n => exact .cons r (ih n)
theorem Fa2.drop {α : Type} {R : V → α → Prop} {vs : List V} {as : List α} (h : Fa2 R vs as) : ∀ n : Nat, Fa2 R (vs.drop n) (as.drop n) := by
  induction h with
  | nil => intro n; simpa using Fa2.nil
  | cons r t ih =>
    intro n
    cases n with
    | zero => exact .cons r t
    | succ n => exact ih n
theorem Fa2.set {α : Type} {R : V → α → Prop} {vs : List V} {as : List α} (h : Fa2 R vs as) {v : V} {a : α} (r : R v a) : ∀ n : Nat, Fa2 R (vs.set n v) (as.set n a) := by
  induction h with
  | nil => intro n; simpa using Fa2.nil
  | cons q t ih =>
    intro n
    cases n with
    | zero => exact .cons r t
    | succ n => exact .cons q (ih n)
theorem Fa2.rep {α : Type} {R : V → α → Prop} {v : V} {a : α} (r : R v a) : ∀ n : Nat, Fa2 R (List.replicate n v) (List.replicate n a)
  | 0 => .nil
  | n + 1 => .cons r (Fa2.rep r n)
theorem Fa2.rev {α : Type} {R : V → α → Prop} {vs : List V} {as : List α} (h : Fa2 R vs as) : Fa2 R vs.reverse as.reverse := by
  induction h with
  | nil => exact .nil
  | cons r _ ih => simpa using ih.app (.cons r .nil)
theorem Fa2.erase {α : Type} {R : V → α → Prop} {vs : List V} {as : List α} (h : Fa2 R vs as) : ∀ n : Nat, Fa2 R (vs.eraseIdx n) (as.eraseIdx n) := by
  induction h with
  | nil => intro n; simpa using Fa2.nil
  | cons q t ih =>
    intro n
    cases n with
    | zero => exact t
    | succ n => exact .cons q (ih n)
theorem Fa2.map {α β : Type} {R : V → α → Prop} {R' : V → β → Prop} {vs : List V} {as : List α} (h : Fa2 R vs as) (f : α → β) (g : ∀ v a, R v a → R' v (f a)) : Fa2 R' vs (as.map f) := by
  induction h with
  | nil => exact .nil
  | cons r _ ih => exact .cons (g _ _ r) ih

/-! ### the types -/
def tInt : Ty Int := ⟨fun _ _ v a => v = .int a, fun _ h => h⟩
def tBool : Ty Bool := ⟨fun _ _ v a => v = .bl a, fun _ h => h⟩
def tStr : Ty Str := ⟨fun _ _ v a => v = .str a, fun _ h => h⟩
def tNon : Ty Unit := ⟨fun _ _ v _ => v = .non, fun _ h => h⟩
def tOpt {α : Type} (T : Ty α) : Ty (Option α) := ⟨fun K F v a => match a with
  | none => v = .non
  | some x => v ≠ .non ∧ T.rel K F v x, fun {K F F' v a} s h => by
  cases a with
  | none => exact h
  | some x => exact ⟨h.1, T.mono s h.2⟩⟩
def tLst {α : Type} (T : Ty α) : Ty (List α) := ⟨fun K F v a => ∃ p vs, v = .ref p ∧ F p = some (.lst vs) ∧ Fa2 (T.rel K F) vs a,
  fun s ⟨p, vs, e, q, r⟩ => ⟨p, vs, e, s _ _ q, r.imp fun _ _ => T.mono s⟩⟩
/-- a list that is only read (the script, a list of the module) -/
def tLstQ {α : Type} (T : Ty α) : Ty (List α) := ⟨fun K F v a => ∃ p vs, v = .ref p ∧ SqL K F p vs ∧ Fa2 (T.rel K F) vs a,
  fun s ⟨p, vs, e, q, r⟩ => ⟨p, vs, e, s.seq q, r.imp fun _ _ => T.mono s⟩⟩
def tTup {α : Type} (T : Ty α) : Ty (List α) := ⟨fun K F v a => ∃ p vs, v = .ref p ∧ SqT K F p vs ∧ Fa2 (T.rel K F) vs a,
  fun s ⟨p, vs, e, q, r⟩ => ⟨p, vs, e, seqT s q, r.imp fun _ _ => T.mono s⟩⟩
/-- tuples and lists of two, three, four things of their own types -/
def tT1 {α : Type} (T : Ty α) : Ty α := ⟨fun K F v a => ∃ p v1, v = .ref p ∧ SqT K F p [v1] ∧ T.rel K F v1 a,
  fun s ⟨p, v1, e, q, r⟩ => ⟨p, v1, e, seqT s q, T.mono s r⟩⟩
def tT2 {α β : Type} (T : Ty α) (U : Ty β) : Ty (α × β) := ⟨fun K F v a => ∃ p v1 v2, v = .ref p ∧ SqT K F p [v1, v2] ∧ T.rel K F v1 a.1 ∧ U.rel K F v2 a.2,
  fun s ⟨p, v1, v2, e, q, r, t⟩ => ⟨p, v1, v2, e, seqT s q, T.mono s r, U.mono s t⟩⟩
def tT3 {α β γ : Type} (T : Ty α) (U : Ty β) (W : Ty γ) : Ty (α × β × γ) := ⟨fun K F v a => ∃ p v1 v2 v3, v = .ref p ∧ SqT K F p [v1, v2, v3] ∧ T.rel K F v1 a.1 ∧ U.rel K F v2 a.2.1 ∧ W.rel K F v3 a.2.2,
  fun s ⟨p, v1, v2, v3, e, q, r, t, u⟩ => ⟨p, v1, v2, v3, e, seqT s q, T.mono s r, U.mono s t, W.mono s u⟩⟩
def tL2 {α β : Type} (T : Ty α) (U : Ty β) : Ty (α × β) := ⟨fun K F v a => ∃ p v1 v2, v = .ref p ∧ F p = some (.lst [v1, v2]) ∧ T.rel K F v1 a.1 ∧ U.rel K F v2 a.2,
  fun s ⟨p, v1, v2, e, q, r, t⟩ => ⟨p, v1, v2, e, s _ _ q, T.mono s r, U.mono s t⟩⟩
def tL3 {α β γ : Type} (T : Ty α) (U : Ty β) (W : Ty γ) : Ty (α × β × γ) := ⟨fun K F v a => ∃ p v1 v2 v3, v = .ref p ∧ F p = some (.lst [v1, v2, v3]) ∧ T.rel K F v1 a.1 ∧ U.rel K F v2 a.2.1 ∧ W.rel K F v3 a.2.2,
  fun s ⟨p, v1, v2, v3, e, q, r, t, u⟩ => ⟨p, v1, v2, v3, e, s _ _ q, T.mono s r, U.mono s t, W.mono s u⟩⟩
mutual
theorem dp_mono {K : PySem.W.Frag} {F F' : Hp} (s : Same F F') : ∀ {d : PyData} {v : V}, Dp K F v d → Dp K F' v d
  | .none, _, h => by cases h; exact .non
  | .bool _, _, h => by cases h; exact .bl _
  | .int _, _, h => by cases h; exact .int _
  | .str _, _, h => by cases h; exact .str _
  | .tuple _, _, h => by
    cases h with
    | tup q r => exact .tup (seqT s q) (dps_mono s r)
  | .list _, _, h => by
    cases h with
    | lst q r => exact .lst (s.seq q) (dps_mono s r)
  | .dict _, _, h => by cases h
theorem dps_mono {K : PySem.W.Frag} {F F' : Hp} (s : Same F F') : ∀ {xs : List PyData} {vs : List V}, DpAll K F vs xs → DpAll K F' vs xs
  | [], _, h => by cases h; exact .nil
  | _ :: _, _, h => by
    cases h with
    | cons h1 h2 => exact .cons (dp_mono s h1) (dps_mono s h2)
end
def tD : Ty PyData := ⟨fun K F v a => Dp K F v a, fun s h => dp_mono s h⟩
/-- a list that may be read -/
def LAt {α : Type} (T : Ty α) (K : PySem.W.Frag) (F H : Hp) (v : V) (a : List α) : Prop := ∃ p vs, v = .ref p ∧ SqL K H p vs ∧ Fa2 (T.rel K F) vs a
/-- .. the list itself is tracked -/
def rLstH {α : Type} (T : Ty α) : Rl (List α) := ⟨fun K F H v a => ∃ p vs, v = .ref p ∧ H p = some (.lst vs) ∧ Fa2 (T.rel K F) vs a, fun s ⟨p, vs, e, q, r⟩ => ⟨p, vs, e, s.hh _ _ q, r.imp fun _ _ => T.mono s.ff⟩⟩
def rLst {α : Type} (T : Ty α) : Rl (List α) := ⟨fun K F H v a => LAt T K F H v a, fun s ⟨p, vs, e, q, r⟩ => ⟨p, vs, e, s.hh.seq q, r.imp fun _ _ => T.mono s.ff⟩⟩

/-! ### owned things -/
structure Own (α : Type) where
  rel : PySem.W.Frag → Hp → Hp → (Addr → Prop) → V → α → Prop
  keep : ∀ {K : PySem.W.Frag} {F H F' H' : Hp} {S : Addr → Prop} {v : V} {a : α}, rel K F H S v a → Same F F' → (∀ p, S p → H' p = H p) → rel K F' H' S v a
/-- fixed -/
def im {α : Type} (T : Ty α) : Own α := ⟨fun K F _ _ v a => T.rel K F v a, fun h s _ => T.mono s h⟩
/-- a list of fixed things -/
def oLst {α : Type} (T : Ty α) : Own (List α) := ⟨fun K F H S v a => ∃ p vs, v = .ref p ∧ S p ∧ H p = some (.lst vs) ∧ Fa2 (T.rel K F) vs a,
  fun ⟨p, vs, e, sp, h, r⟩ s k => ⟨p, vs, e, sp, (k p sp).trans h, r.imp fun _ _ => T.mono s⟩⟩
/-- F with what S has in H -/
noncomputable def frz (F H : Hp) (S : Addr → Prop) : Hp := fun p => by
  classical
  exact if S p then H p else F p
theorem frz_in {F H : Hp} {S : Addr → Prop} {p : Addr} (h : S p) : frz F H S p = H p := by
  unfold frz
  simp [h]
theorem frz_out {F H : Hp} {S : Addr → Prop} {p : Addr} (h : ¬ S p) : frz F H S p = F p := by
  unfold frz
  simp [h]
theorem frz_same {F H : Hp} {S : Addr → Prop} (d : ∀ p, S p → F p = none) : Same F (frz F H S) := fun a o e => by
  rw [frz_out (fun h => by rw [d a h] at e; cases e)]
  exact e
theorem frz_sub {F H : Hp} {S : Addr → Prop} (s : Same F H) : Same (frz F H S) H := fun a o e => by
  by_cases h : S a
  · rw [frz_in h] at e
    exact e
  · rw [frz_out h] at e
    exact s a o e
/-- what an owned thing is when it is fixed -/
def Fz {α : Type} (O : Own α) (T : Ty α) : Prop := ∀ (K : PySem.W.Frag) (F H : Hp) (S : Addr → Prop) (v : V) (a : α), (∀ p, S p → F p = none) → O.rel K F H S v a → T.rel K (frz F H S) v a
theorem fz_lst {α : Type} (T : Ty α) : Fz (oLst T) (tLst T) := fun K F H S v a d ⟨p, vs, e, sp, h, r⟩ =>
  ⟨p, vs, e, (frz_in sp).trans h, r.imp fun _ _ => T.mono (frz_same d)⟩

/-! ### the state: the slots -/
inductive Slot where
  | any
  | on (α : Type) (O : Own α) (a : α)
def Slot.ok (K : PySem.W.Frag) (F H : Hp) (S : Addr → Prop) (o : Option V) : Slot → Prop
  | .any => True
  | .on _ O a => ∃ v, o = some v ∧ O.rel K F H S v a
abbrev iS {α : Type} (T : Ty α) (a : α) : Slot := .on α (im T) a
/-- a def's entry: the heaps, the addresses that it may write -/
structure Bs where
  F : Hp
  H : Hp
  W : Addr → Prop
abbrev Ow := Addr → Option Nat
structure EnvOk (K : PySem.W.Frag) (B : Bs) (Γ : List Slot) (σ : L2.St) (F H : Hp) (ω : Ow) : Prop where
  base : SW B.W B.F B.H F H
  len : σ.length = Γ.length
  own : ∀ a i, ω a = some i → F a = none ∧ H a ≠ none ∧ (B.H a = none ∨ B.W a)
  slot : ∀ (i : Nat) (s : Slot), Γ[i]? = some s → s.ok K F H (fun a => ω a = some i) (σ[i]?.join)
theorem Slot.keep {K : PySem.W.Frag} {F H F' H' : Hp} {S : Addr → Prop} {o : Option V} {s : Slot} (h : s.ok K F H S o) (ff : Same F F') (k : ∀ p, S p → H' p = H p) : s.ok K F' H' S o := by
  cases s with
  | any => trivial
  | on α O a =>
    obtain ⟨v, e, r⟩ := h
    exact ⟨v, e, O.keep r ff k⟩
theorem same_at {H H' : Hp} (s : Same H H') {a : Addr} (n : H a ≠ none) : H' a = H a := by
  cases e : H a with
  | none => exact absurd e n
  | some o => exact s a o e
theorem EnvOk.fh {K : PySem.W.Frag} {B : Bs} {Γ : List Slot} {σ : L2.St} {F H : Hp} {ω : Ow} (e : EnvOk K B Γ σ F H ω) : Same F H := e.base.fh
theorem EnvOk.stp {K : PySem.W.Frag} {B : Bs} {Γ : List Slot} {σ : L2.St} {F H F' H' : Hp} {ω : Ow} (e : EnvOk K B Γ σ F H ω) (s : Stp F H F' H') : EnvOk K B Γ σ F' H' ω :=
  ⟨e.base.stp s, e.len, fun a i h => let ⟨x, y, z⟩ := e.own a i h; ⟨s.old a x y, same_ne s.hh y, z⟩, fun i t h => Slot.keep (e.slot i t h) s.ff fun p hp => same_at s.hh (e.own p i hp).2.1⟩

/-! ### errors, ends -/
def ErrOk (K : PySem.W.Frag) (F : Hp) (x : Err) (cls : Value) (d : Option Addr) : Prop :=
  cls = .ref (gaN K x.cls) ∧ ∃ dd fs, d = some dd ∧ F dd = some (.xd fs) ∧ fs.map (·.1) = x.fs.map (·.1) ∧ DpAll K F (fs.map (·.2)) (x.fs.map (·.2))
  where gaN (K : PySem.W.Frag) (x : Str) : Addr := match PySem.W.nsIn K mainGlobals x with
    | some (some (.ref a)) => a
    | _ => 0
/-- what a wish about exceptions takes -/
def RB (K : PySem.W.Frag) (B : Bs) (E : XK) (x : Err) : Prop := ∀ cls d F' H', SW B.W B.F B.H F' H' → ErrOk K F' x cls d → E cls d H'
inductive SOut where
  | nx (Γ : List Slot)
  | bk (Γ : List Slot)
  | rt (α : Type) (T : Ty α) (a : α)
  | ro (α : Type) (O : Own α) (a : α)
def EndOk (K : PySem.W.Frag) (B : Bs) (F0 : Hp) (En : Ends) : SOut → Prop
  | .nx Γ => ∀ σ F H ω, Same F0 F → EnvOk K B Γ σ F H ω → En.nx σ H
  | .bk Γ => ∀ σ F H ω, Same F0 F → EnvOk K B Γ σ F H ω → En.bk σ H
  | .rt _ T a => ∀ v F H, SW B.W B.F B.H F H → T.rel K F v a → En.rt v H
  | .ro _ O a => ∀ v F H S, SW B.W B.F B.H F H → (∀ p, S p → F p = none ∧ H p ≠ none ∧ B.H p = none) → O.rel K F H S v a → En.rt v H
theorem EndOk.up {K : PySem.W.Frag} {B : Bs} {F0 F1 : Hp} {En : Ends} {o : SOut} (h : EndOk K B F0 En o) (s : Same F0 F1) : EndOk K B F1 En o := by
  cases o with
  | nx Γ => exact fun σ F H ω q e => h σ F H ω (s.trans q) e
  | bk Γ => exact fun σ F H ω q e => h σ F H ω (s.trans q) e
  | rt α T a => exact h
  | ro α O a => exact h

/-! ### the judgements -/
def sE (X : Cx) (e : Expr) : TE := fun σ H Q => ∃ t, PE X e t ∧ t σ H Q
def sT (X : Cx) (e : Expr) : TT := fun σ H Q => ∃ t, PT X e t ∧ t σ H Q
def sA (X : Cx) (es : List Expr) : TA := fun σ H Q => ∃ t, PA X es t ∧ t σ H Q
def sS (X : Cx) (s : Stmt) : TS := fun D σ H => ∃ t, PS X s t ∧ t D σ H
def sSs (X : Cx) (ss : List Stmt) : TS := fun D σ H => ∃ t, PSs X ss t ∧ t D σ H
def sG (X : Cx) (tg : Expr) : TG := fun v σ H Q => ∃ t, PG X tg t ∧ t v σ H Q
def sI (X : Cx) (tg iter : Expr) : TI := fun σ H R => ∃ w, PI X tg iter w ∧ w σ H R
theorem pe_s {X : Cx} {e : Expr} : PE X e (sE X e) := ⟨fun pins s σ H Q I ⟨_, p, h⟩ => p.run pins s σ H Q I h⟩
theorem pt_s {X : Cx} {e : Expr} : PT X e (sT X e) := ⟨fun pins s σ H Q I ⟨_, p, h⟩ => p.run pins s σ H Q I h⟩
theorem pa_s {X : Cx} {es : List Expr} : PA X es (sA X es) := ⟨fun pos pins s σ H Q I ⟨_, p, h⟩ => p.run pos pins s σ H Q I h⟩
theorem ps_s {X : Cx} {s : Stmt} : PS X s (sS X s) := ⟨fun pins s σ H D I ⟨_, p, h⟩ => p.run pins s σ H D I h⟩
theorem pss_s {X : Cx} {ss : List Stmt} : PSs X ss (sSs X ss) := ⟨fun pins s σ H D I ⟨_, p, h⟩ => p.run pins s σ H D I h⟩
theorem pg_s {X : Cx} {tg : Expr} : PG X tg (sG X tg) := ⟨fun pins s σ H v u Q I r ⟨_, p, h⟩ => p.run pins s σ H v u Q I r h⟩
theorem pi_s {X : Cx} {tg iter : Expr} : PI X tg iter (sI X tg iter) := ⟨fun pins s σ H R I ⟨_, p, h⟩ => p.run pins s σ H R I h⟩

/-- a scope as it runs, as it is written -/
structure Scp where
  sc : Scope
  raw : Scope
/-- what is known of the context: the names by slot, the scope, the room for calls, the wish E about exceptions -/
structure XC (X : Cx) (N : List Str) (sc : Scp) (k : Nat) (E : XK) : Prop where
  nm : X.N = N
  nd : N.Nodup
  scp : X.env.scope = sc.sc
  calm : X.calm = true
  room : Room k X.A
  pass : Passes (L2.CX X.prog X.w) X E
  own : PassesOwn (model X.prog X.w) X.A X.env X.xe
  loc : ∀ x, L2.Loc sc.raw x → L2.Loc X.env.scope x ∧ (X.fn x = true ∨ X.env.scope.names.lookup x = some .local)

variable {X : Cx} {N : List Str} {sc : Scp} {k : Nat} {E : XK} {B : Bs} {Γ : List Slot}
def WE (X : Cx) (E : XK) (B : Bs) (Γ : List Slot) (e : Expr) {α : Type} (R : Rl α) (m : Out α) : Prop :=
  ∀ σ F H ω Q, EnvOk X.K B Γ σ F H ω → Post m (fun a => ∀ v F' H', Stp F H F' H' → R.rel X.K F' H' v a → Q v H') (RB X.K B E) → sE X e σ H Q
def WT (X : Cx) (E : XK) (B : Bs) (Γ : List Slot) (e : Expr) (m : Out Bool) : Prop :=
  ∀ σ F H ω Q, EnvOk X.K B Γ σ F H ω → Post m (fun b => ∀ F' H', Stp F H F' H' → Q b H') (RB X.K B E) → sT X e σ H Q
/-- a new thing -/
def WO (X : Cx) (E : XK) (B : Bs) (Γ : List Slot) (e : Expr) {α : Type} (O : Own α) (m : Out α) : Prop :=
  ∀ σ F H ω Q, EnvOk X.K B Γ σ F H ω → Post m (fun a => ∀ v F' H' S, Stp F H F' H' → (∀ p, S p → F' p = none ∧ H' p ≠ none ∧ H p = none) → O.rel X.K F' H' S v a → Q v H') (RB X.K B E) → sE X e σ H Q
/-- blocks, one behind another -/
def sK (X : Cx) : List (List Stmt) → TS
  | [] => fun D σ H => D.nx σ H
  | b :: bs => fun D σ H => sSs X b { D with nx := fun σ' H' => sK X bs D σ' H' } σ H
def WS (X : Cx) (E : XK) (B : Bs) (Γ : List Slot) (bs : List (List Stmt)) {β : Type} (m : Out β) (D : β → SOut) : Prop :=
  ∀ σ F H ω En, EnvOk X.K B Γ σ F H ω → Post m (fun b => EndOk X.K B F En (D b)) (RB X.K B E) → sK X bs En σ H
/-- one statement -/
def W1 (X : Cx) (E : XK) (B : Bs) (Γ : List Slot) (s : Stmt) {β : Type} (m : Out β) (D : β → SOut) : Prop :=
  ∀ σ F H ω En, EnvOk X.K B Γ σ F H ω → Post m (fun b => EndOk X.K B F En (D b)) (RB X.K B E) → sS X s En σ H
end SL

set_option Elab.async false
set_option linter.all false
set_option maxRecDepth 100000
set_option maxHeartbeats 2000000
/-! SLb: rules of the typed layer: expressions, tests. -/
namespace SL
open PySem PySem.Spec PyProof.Rows L2
variable {X : Cx} {N : List Str} {sc : Scp} {k : Nat} {E : XK} {B : Bs} {Γ : List Slot}

/-! ### weakening -/
def Rl.le {α : Type} (R S : Rl α) : Prop := ∀ K F H v a, R.rel K F H v a → S.rel K F H v a
theorem WE.sub {e : Expr} {α : Type} {R S : Rl α} {m : Out α} (h : WE X E B Γ e R m) (l : ∀ K F H v a, Same F H → R.rel K F H v a → S.rel K F H v a) : WE X E B Γ e S m :=
  fun σ F H ω Q e p => h σ F H ω Q e (p.imp fun a q v F' H' s r => q v F' H' s (l _ _ _ _ _ s.fh r))
theorem tLst_H {α : Type} {T : Ty α} : ∀ K F H v (a : List α), Same F H → (tLst T).rl.rel K F H v a → (rLstH T).rel K F H v a :=
  fun K F H v a s ⟨p, vs, e, q, r⟩ => ⟨p, vs, e, s _ _ q, r⟩
theorem rLst_H {α : Type} {T : Ty α} : ∀ K F H v (a : List α), Same F H → (rLstH T).rel K F H v a → (rLst T).rel K F H v a :=
  fun K F H v a s ⟨p, vs, e, q, r⟩ => ⟨p, vs, e, SqL.of q, r⟩
theorem tLstQ_le {α : Type} {T : Ty α} : ∀ K F H v (a : List α), Same F H → (tLstQ T).rl.rel K F H v a → (rLst T).rel K F H v a :=
  fun K F H v a s ⟨p, vs, e, q, r⟩ => ⟨p, vs, e, s.seq q, r⟩
/-- a list that may be read, of something fixed -/
theorem WE.rh {e : Expr} {α : Type} {T : Ty α} {m : Out (List α)} (h : WE X E B Γ e (tLst T).rl m) : WE X E B Γ e (rLstH T) m := h.sub tLst_H
theorem WE.hr {e : Expr} {α : Type} {T : Ty α} {m : Out (List α)} (h : WE X E B Γ e (rLstH T) m) : WE X E B Γ e (rLst T) m := h.sub rLst_H
theorem WE.rd {e : Expr} {α : Type} {T : Ty α} {m : Out (List α)} (h : WE X E B Γ e (tLst T).rl m) : WE X E B Γ e (rLst T) m := h.rh.hr
theorem WE.rq {e : Expr} {α : Type} {T : Ty α} {m : Out (List α)} (h : WE X E B Γ e (tLstQ T).rl m) : WE X E B Γ e (rLst T) m := h.sub tLstQ_le
theorem WE.cast {e : Expr} {α : Type} {R : Rl α} {m m' : Out α} (h : WE X E B Γ e R m) (q : m = m') : WE X E B Γ e R m' := q ▸ h
theorem WE.map {e : Expr} {α β : Type} {R : Rl α} {S : Rl β} {m : Out α} (h : WE X E B Γ e R m) (f : α → β) (l : ∀ K F H v a, Same F H → R.rel K F H v a → S.rel K F H v (f a)) : WE X E B Γ e S (m >>= fun a => pure (f a)) :=
  fun σ F H ω Q e p => h σ F H ω Q e (p.bind.imp fun a q v F' H' s r => q v F' H' s (l _ _ _ _ _ s.fh r))
/-- fixed -/
theorem WO.fz {e : Expr} {α : Type} {O : Own α} {T : Ty α} {m : Out α} (h : WO X E B Γ e O m) (z : Fz O T) : WE X E B Γ e T.rl m := fun σ F H ω Q e p =>
  h σ F H ω Q e (p.imp fun a q v F' H' S s d r => q v (frz F' H' S) H'
    ⟨s.ff.trans (frz_same fun p hp => (d p hp).1), frz_sub s.fh, s.hh, fun c x y => by
      rw [frz_out (fun hc => y (d c hc).2.2)]
      exact s.old c x y⟩ (z _ _ _ _ _ _ (fun p hp => (d p hp).1) r))
/-- a new list as one that may be read -/
theorem WO.rh {e : Expr} {α : Type} {T : Ty α} {m : Out (List α)} (h : WO X E B Γ e (oLst T) m) : WE X E B Γ e (rLstH T) m := (h.fz (fz_lst T)).rh
theorem WO.rd {e : Expr} {α : Type} {T : Ty α} {m : Out (List α)} (h : WO X E B Γ e (oLst T) m) : WE X E B Γ e (rLst T) m := (h.fz (fz_lst T)).rd

/-! ### names, constants -/
theorem join_some {σ : L2.St} {i : Nat} {v : V} (h : σ[i]?.join = some v) : σ[i]? = some (some v) := by
  cases e : σ[i]? with
  | none => rw [e] at h; cases h
  | some o => rw [e] at h; exact congrArg some h
theorem pv_ (C : XC X N sc k E) {i : Nat} {x : Str} {pos : Pos} (hN : N[i]? = some x) (hv : Vis sc.sc x) (hd : (x == ("__debug__" : Str)) = false) (hcd : (x == ("__classdict__" : Str)) = false) : PE X (.Name x pos) (tVar i) :=
  pe_var (by rw [C.nm]; exact hN) (by rw [C.scp]; exact hv) hd hcd
/-- what may be read of a slot -/
theorem we_slot (C : XC X N sc k E) (i : Nat) {x : Str} {pos : Pos} {α : Type} {O : Own α} {R : Rl α} {a : α} (l : ∀ K F H S v a, Same F H → O.rel K F H S v a → R.rel K F H v a) (hΓ : Γ[i]? = some (.on α O a)) (hN : N[i]? = some x) (hv : Vis sc.sc x)
    (hd : (x == ("__debug__" : Str)) = false) (hcd : (x == ("__classdict__" : Str)) = false) : WE X E B Γ (.Name x pos) R (pure a) := fun σ F H ω Q e p => by
  obtain ⟨v, hs, r⟩ := e.slot i _ hΓ
  exact ⟨_, pv_ C hN hv hd hcd, v, join_some hs, p v F H (Stp.refl e.fh) (l _ _ _ _ _ _ e.fh r)⟩
/-- the fixed thing in slot i -/
theorem we_var (C : XC X N sc k E) (i : Nat) {x : Str} {pos : Pos} {α : Type} {T : Ty α} {a : α} (hΓ : Γ[i]? = some (iS T a) := by rfl) (hN : N[i]? = some x := by rfl) (hv : Vis sc.sc x := by first | exact Or.inl rfl | exact Or.inr (Or.inl rfl) | exact Or.inr (Or.inr rfl))
    (hd : (x == ("__debug__" : Str)) = false := by decide) (hcd : (x == ("__classdict__" : Str)) = false := by decide) : WE X E B Γ (.Name x pos) T.rl (pure a) :=
  we_slot C i (R := T.rl) (fun _ _ _ _ _ _ _ r => r) hΓ hN hv hd hcd
/-- the own list in slot i -/
theorem we_ovar (C : XC X N sc k E) (i : Nat) {x : Str} {pos : Pos} {α : Type} {T : Ty α} {a : List α} (hΓ : Γ[i]? = some (.on _ (oLst T) a) := by rfl) (hN : N[i]? = some x := by rfl) (hv : Vis sc.sc x := by first | exact Or.inl rfl | exact Or.inr (Or.inl rfl) | exact Or.inr (Or.inr rfl))
    (hd : (x == ("__debug__" : Str)) = false := by decide) (hcd : (x == ("__classdict__" : Str)) = false := by decide) : WE X E B Γ (.Name x pos) (rLstH T) (pure a) :=
  we_slot C i (R := rLstH T) (fun _ _ _ _ _ _ _ h => by
    obtain ⟨p, vs, e, _, h, r⟩ := h
    exact ⟨p, vs, e, h, r⟩) hΓ hN hv hd hcd
theorem we_int {i : Int} {j : Nat} {pos : Pos} : WE X E B Γ (.Constant (.int i) j pos) tInt.rl (pure i) := fun σ F H ω Q e p => ⟨_, pe_int, p _ F H (Stp.refl e.fh) rfl⟩
theorem we_bl {b : Bool} {j : Nat} {pos : Pos} : WE X E B Γ (.Constant (.bool b) j pos) tBool.rl (pure b) := fun σ F H ω Q e p => ⟨_, pe_bl, p _ F H (Stp.refl e.fh) rfl⟩
theorem we_non {j : Nat} {pos : Pos} : WE X E B Γ (.Constant .none j pos) tNon.rl (pure ()) := fun σ F H ω Q e p => ⟨_, pe_non, p _ F H (Stp.refl e.fh) rfl⟩
theorem we_str {s : Str} {j : Nat} {pos : Pos} : WE X E B Γ (.Constant (.str s) j pos) tStr.rl (pure s) := fun σ F H ω Q e p => ⟨_, pe_str, p _ F H (Stp.refl e.fh) rfl⟩
/-- None where something may be -/
theorem we_nonO {α : Type} {T : Ty α} {j : Nat} {pos : Pos} : WE X E B Γ (.Constant .none j pos) (tOpt T).rl (pure none) := fun σ F H ω Q e p => ⟨_, pe_non, p _ F H (Stp.refl e.fh) rfl⟩
/-- a type whose things are never None -/
def NN {α : Type} (T : Ty α) : Prop := ∀ K F v a, T.rel K F v a → v ≠ .non
theorem nn_int : NN tInt := fun _ _ _ _ h => by rw [show _ = _ from h]; exact fun z => nomatch z
theorem nn_bool : NN tBool := fun _ _ _ _ h => by rw [show _ = _ from h]; exact fun z => nomatch z
theorem nn_str : NN tStr := fun _ _ _ _ h => by rw [show _ = _ from h]; exact fun z => nomatch z
theorem nn_tup {α : Type} {T : Ty α} : NN (tTup T) := fun _ _ _ _ ⟨_, _, e, _⟩ => by rw [e]; exact fun z => nomatch z
theorem nn_lst {α : Type} {T : Ty α} : NN (tLst T) := fun _ _ _ _ ⟨_, _, e, _⟩ => by rw [e]; exact fun z => nomatch z
theorem nn_t2 {α β : Type} {T : Ty α} {U : Ty β} : NN (tT2 T U) := fun _ _ _ _ ⟨_, _, _, e, _⟩ => by rw [e]; exact fun z => nomatch z
theorem nn_t3 {α β γ : Type} {T : Ty α} {U : Ty β} {W : Ty γ} : NN (tT3 T U W) := fun _ _ _ _ ⟨_, _, _, _, e, _⟩ => by rw [e]; exact fun z => nomatch z
theorem WE.some {e : Expr} {α : Type} {T : Ty α} {m : Out α} (h : WE X E B Γ e T.rl m) (n : NN T) : WE X E B Γ e (tOpt T).rl (m >>= fun a => pure (some a)) :=
  h.map Option.some fun K F H v a _ r => ⟨n K F v a r, r⟩

/-! ### two operands -/
/-- an operation on values: what f tells of the data -/
def VOp (K : PySem.W.Frag) (r : R2) {α β γ : Type} (R : Rl α) (S : Rl β) (W : Rl γ) (f : α → β → Out γ) : Prop :=
  ∀ (F H : Hp) (x y : V) (a : α) (b : β) (Q : VK) (J : Err → Prop), Same F H → R.rel K F H x a → S.rel K F H y b → Post (f a b) (fun c => ∀ v F' H', Stp F H F' H' → W.rel K F' H' v c → Q v H') J → r x y H Q
theorem two_ {e1 e2 : Expr} {α β γ : Type} {R : Rl α} {S : Rl β} {W : Rl γ} {r : R2} {f : α → β → Out γ} {m1 : Out α} {m2 : Out β} (h1 : WE X E B Γ e1 R m1) (h2 : WE X E B Γ e2 S m2) (hr : VOp X.K r R S W f)
    {σ : L2.St} {F H : Hp} {ω : Ow} {Q : VK} (e : EnvOk X.K B Γ σ F H ω) (p : Post (m1 >>= fun a => m2 >>= fun b => f a b) (fun c => ∀ v F' H', Stp F H F' H' → W.rel X.K F' H' v c → Q v H') (RB X.K B E)) :
    tOp r (sE X e1) (sE X e2) σ H Q := by
  refine h1 σ F H ω _ e (p.bind.imp fun a q v1 F1 H1 s1 r1 => ?_)
  refine h2 σ F1 H1 ω _ (e.stp s1) (q.bind.imp fun b q v2 F2 H2 s2 r2 => ?_)
  exact hr F2 H2 v1 v2 a b Q _ s2.fh (R.mono s2 r1) r2 (q.imp fun c q v F' H' s r => q v F' H' ((s1.trans s2).trans s) r)
theorem we_op {op : Operator} {r : R2} (ho : OpR X (binaryOp op) r) {e1 e2 : Expr} {α β γ : Type} {R : Rl α} {S : Rl β} {W : Rl γ} {f : α → β → Out γ} {m1 : Out α} {m2 : Out β} {pos : Pos} (hr : VOp X.K r R S W f)
    (h1 : WE X E B Γ e1 R m1) (h2 : WE X E B Γ e2 S m2) : WE X E B Γ (.BinOp e1 op e2 pos) W (m1 >>= fun a => m2 >>= fun b => f a b) :=
  fun σ F H ω Q e p => ⟨_, pe_op ho pe_s pe_s, two_ h1 h2 hr e p⟩
theorem we_cmp {op : CmpOp} {r : R2} (ho : OpR X (compareOp op) r) {e1 e2 : Expr} {α β γ : Type} {R : Rl α} {S : Rl β} {W : Rl γ} {f : α → β → Out γ} {m1 : Out α} {m2 : Out β} {pos : Pos} (hr : VOp X.K r R S W f) (hm : behindInMarks op e2 = false)
    (h1 : WE X E B Γ e1 R m1) (h2 : WE X E B Γ e2 S m2) : WE X E B Γ (.Compare e1 [op] [e2] pos) W (m1 >>= fun a => m2 >>= fun b => f a b) :=
  fun σ F H ω Q e p => ⟨_, pe_cmpR ho pe_s pe_s hm, two_ h1 h2 hr e p⟩
theorem wt_cmp {op : CmpOp} {r : R2} (ho : OpR X (compareOp op) r) {e1 e2 : Expr} {α β : Type} {R : Rl α} {S : Rl β} {f : α → β → Out Bool} {m1 : Out α} {m2 : Out β} {pos : Pos} (hr : VOp X.K r R S tBool.rl f) (hm : behindInMarks op e2 = false)
    (h1 : WE X E B Γ e1 R m1) (h2 : WE X E B Γ e2 S m2) : WT X E B Γ (.Compare e1 [op] [e2] pos) (m1 >>= fun a => m2 >>= fun b => f a b) :=
  fun σ F H ω Q e p => ⟨_, pt_cmpR ho pe_s pe_s hm, two_ (W := tBool.rl) h1 h2 hr e (p.imp fun c q v F' H' s r => ⟨c, r, q F' H' s⟩)⟩
/-- the two are known -/
theorem we_opP {op : Operator} {r : R2} (ho : OpR X (binaryOp op) r) {e1 e2 : Expr} {α β γ : Type} {R : Rl α} {S : Rl β} {W : Rl γ} {f : α → β → Out γ} {a : α} {b : β} {pos : Pos} (hr : VOp X.K r R S W f)
    (h1 : WE X E B Γ e1 R (pure a)) (h2 : WE X E B Γ e2 S (pure b)) : WE X E B Γ (.BinOp e1 op e2 pos) W (f a b) := we_op ho hr h1 h2

section
variable {K : PySem.W.Frag}
theorem v_I0 {g : Int → Int → Int} : VOp K (rI0 fun i j => .int (g i j)) tInt.rl tInt.rl tInt.rl (fun i j => pure (g i j)) := fun F H x y a b Q J s h1 h2 p => ⟨a, b, h1, h2, p _ F H (Stp.refl s) rfl⟩
theorem v_B0 {g : Int → Int → Bool} : VOp K (rI0 fun i j => .bl (g i j)) tInt.rl tInt.rl tBool.rl (fun i j => pure (g i j)) := fun F H x y a b Q J s h1 h2 p => ⟨a, b, h1, h2, p _ F H (Stp.refl s) rfl⟩
theorem v_I {C : Int → Int → Prop} [∀ i j, Decidable (C i j)] {g : Int → Int → Int} : VOp K (rI C fun i j => .int (g i j)) tInt.rl tInt.rl tInt.rl (fun i j => if C i j then pure (g i j) else .stuck) := fun F H x y a b Q J s h1 h2 p => by
  dsimp only at p
  by_cases c : C a b
  · rw [if_pos c] at p
    exact ⟨a, b, h1, h2, c, p _ F H (Stp.refl s) rfl⟩
  · rw [if_neg c] at p
    exact p.elim
instance (i j : Int) : Decidable (CDiv i j) := by unfold CDiv; infer_instance
instance (i j : Int) : Decidable (CMul i j) := by unfold CMul; infer_instance
instance (i j : Int) : Decidable (CPow i j) := by unfold CPow; infer_instance
end
/-- the rests and quotients by what is above 0, products -/
def mulO (i j : Int) : Out Int := if CMul i j then pure (i * j) else .stuck
def divO (i j : Int) : Out Int := if CDiv i j then pure (i / j) else .stuck
def modO (i j : Int) : Out Int := if 0 < j then pure (i % j) else .stuck
def powO (i j : Int) : Out Int := if CPow i j then pure (i ^ j.toNat) else .stuck
section
variable {e1 e2 : Expr} {m1 m2 : Out Int} {a b : Int} {pos : Pos}
theorem we_add (h1 : WE X E B Γ e1 tInt.rl m1) (h2 : WE X E B Γ e2 tInt.rl m2) : WE X E B Γ (.BinOp e1 .Add e2 pos) tInt.rl (m1 >>= fun a => m2 >>= fun b => pure (a + b)) := we_op op_add v_I0 h1 h2
theorem we_addP (h1 : WE X E B Γ e1 tInt.rl (pure a)) (h2 : WE X E B Γ e2 tInt.rl (pure b)) : WE X E B Γ (.BinOp e1 .Add e2 pos) tInt.rl (pure (a + b)) := we_op op_add v_I0 h1 h2
theorem we_sub (h1 : WE X E B Γ e1 tInt.rl m1) (h2 : WE X E B Γ e2 tInt.rl m2) : WE X E B Γ (.BinOp e1 .Sub e2 pos) tInt.rl (m1 >>= fun a => m2 >>= fun b => pure (a - b)) := we_op op_sub v_I0 h1 h2
theorem we_subP (h1 : WE X E B Γ e1 tInt.rl (pure a)) (h2 : WE X E B Γ e2 tInt.rl (pure b)) : WE X E B Γ (.BinOp e1 .Sub e2 pos) tInt.rl (pure (a - b)) := we_op op_sub v_I0 h1 h2
theorem we_mul (h1 : WE X E B Γ e1 tInt.rl m1) (h2 : WE X E B Γ e2 tInt.rl m2) : WE X E B Γ (.BinOp e1 .Mult e2 pos) tInt.rl (m1 >>= fun a => m2 >>= fun b => mulO a b) := we_op op_mul v_I h1 h2
theorem we_div (h1 : WE X E B Γ e1 tInt.rl m1) (h2 : WE X E B Γ e2 tInt.rl m2) : WE X E B Γ (.BinOp e1 .FloorDiv e2 pos) tInt.rl (m1 >>= fun a => m2 >>= fun b => divO a b) := we_op op_fdiv v_I h1 h2
theorem we_mod (h1 : WE X E B Γ e1 tInt.rl m1) (h2 : WE X E B Γ e2 tInt.rl m2) : WE X E B Γ (.BinOp e1 .Mod e2 pos) tInt.rl (m1 >>= fun a => m2 >>= fun b => modO a b) := we_op op_mod v_I h1 h2
theorem we_pow (h1 : WE X E B Γ e1 tInt.rl m1) (h2 : WE X E B Γ e2 tInt.rl m2) : WE X E B Γ (.BinOp e1 .Pow e2 pos) tInt.rl (m1 >>= fun a => m2 >>= fun b => powO a b) := we_op op_pow v_I h1 h2
theorem mulO_r {i j : Int} (h : (decide (-(2 ^ 64) < j) && decide (j < 2 ^ 64)) = true) : mulO i j = pure (i * j) := by
  simp only [Bool.and_eq_true, decide_eq_true_eq] at h
  exact if_pos (.inr h)
theorem mulO_l {i j : Int} (h : (decide (-(2 ^ 64) < i) && decide (i < 2 ^ 64)) = true) : mulO i j = pure (i * j) := by
  simp only [Bool.and_eq_true, decide_eq_true_eq] at h
  exact if_pos (.inl h)
theorem divO_l {i j : Int} (h : (decide (0 < j) && decide (j < 1073741824)) = true) : divO i j = pure (i / j) := by
  simp only [Bool.and_eq_true, decide_eq_true_eq] at h
  exact if_pos h
theorem modO_l {i j : Int} (h : decide (0 < j) = true) : modO i j = pure (i % j) := if_pos (of_decide_eq_true h)
theorem powO_l {i j n : Int} (h : (decide (CPow i j) && decide (i ^ j.toNat = n)) = true) : powO i j = pure n := by
  simp only [Bool.and_eq_true, decide_eq_true_eq] at h
  rw [powO, if_pos h.1, h.2]
/-- by written numbers -/
theorem we_mulR (h1 : WE X E B Γ e1 tInt.rl m1) (h2 : WE X E B Γ e2 tInt.rl (pure b)) (h : (decide (-(2 ^ 64) < b) && decide (b < 2 ^ 64)) = true := by rfl) : WE X E B Γ (.BinOp e1 .Mult e2 pos) tInt.rl (m1 >>= fun a => pure (a * b)) :=
  (we_mul h1 h2).cast (congrArg (Out.bind m1) (funext fun a => mulO_r h))
theorem we_mulL (h1 : WE X E B Γ e1 tInt.rl (pure a)) (h2 : WE X E B Γ e2 tInt.rl m2) (h : (decide (-(2 ^ 64) < a) && decide (a < 2 ^ 64)) = true := by rfl) : WE X E B Γ (.BinOp e1 .Mult e2 pos) tInt.rl (m2 >>= fun b => pure (a * b)) :=
  (we_mul h1 h2).cast (congrArg (Out.bind m2) (funext fun b => mulO_l h))
theorem we_divR (h1 : WE X E B Γ e1 tInt.rl m1) (h2 : WE X E B Γ e2 tInt.rl (pure b)) (h : (decide (0 < b) && decide (b < 1073741824)) = true := by rfl) : WE X E B Γ (.BinOp e1 .FloorDiv e2 pos) tInt.rl (m1 >>= fun a => pure (a / b)) :=
  (we_div h1 h2).cast (congrArg (Out.bind m1) (funext fun a => divO_l h))
theorem we_modR (h1 : WE X E B Γ e1 tInt.rl m1) (h2 : WE X E B Γ e2 tInt.rl (pure b)) (h : decide (0 < b) = true := by rfl) : WE X E B Γ (.BinOp e1 .Mod e2 pos) tInt.rl (m1 >>= fun a => pure (a % b)) :=
  (we_mod h1 h2).cast (congrArg (Out.bind m1) (funext fun a => modO_l h))
theorem we_powL (n : Int) (h1 : WE X E B Γ e1 tInt.rl (pure a)) (h2 : WE X E B Γ e2 tInt.rl (pure b)) (h : (decide (CPow a b) && decide (a ^ b.toNat = n)) = true := by decide +kernel) : WE X E B Γ (.BinOp e1 .Pow e2 pos) tInt.rl (pure n) :=
  (we_pow h1 h2).cast (powO_l h)
theorem we_lt (h1 : WE X E B Γ e1 tInt.rl m1) (h2 : WE X E B Γ e2 tInt.rl m2) : WE X E B Γ (.Compare e1 [.Lt] [e2] pos) tBool.rl (m1 >>= fun a => m2 >>= fun b => pure (decide (a < b))) := we_cmp op_lt v_B0 (nomark _) h1 h2
theorem we_le (h1 : WE X E B Γ e1 tInt.rl m1) (h2 : WE X E B Γ e2 tInt.rl m2) : WE X E B Γ (.Compare e1 [.LtE] [e2] pos) tBool.rl (m1 >>= fun a => m2 >>= fun b => pure (decide (a ≤ b))) := we_cmp op_le v_B0 (nomark _) h1 h2
theorem we_gt (h1 : WE X E B Γ e1 tInt.rl m1) (h2 : WE X E B Γ e2 tInt.rl m2) : WE X E B Γ (.Compare e1 [.Gt] [e2] pos) tBool.rl (m1 >>= fun a => m2 >>= fun b => pure (decide (b < a))) := we_cmp op_gt v_B0 (nomark _) h1 h2
theorem we_ge (h1 : WE X E B Γ e1 tInt.rl m1) (h2 : WE X E B Γ e2 tInt.rl m2) : WE X E B Γ (.Compare e1 [.GtE] [e2] pos) tBool.rl (m1 >>= fun a => m2 >>= fun b => pure (decide (b ≤ a))) := we_cmp op_ge v_B0 (nomark _) h1 h2
theorem wt_lt (h1 : WE X E B Γ e1 tInt.rl m1) (h2 : WE X E B Γ e2 tInt.rl m2) : WT X E B Γ (.Compare e1 [.Lt] [e2] pos) (m1 >>= fun a => m2 >>= fun b => pure (decide (a < b))) := wt_cmp op_lt v_B0 (nomark _) h1 h2
theorem wt_le (h1 : WE X E B Γ e1 tInt.rl m1) (h2 : WE X E B Γ e2 tInt.rl m2) : WT X E B Γ (.Compare e1 [.LtE] [e2] pos) (m1 >>= fun a => m2 >>= fun b => pure (decide (a ≤ b))) := wt_cmp op_le v_B0 (nomark _) h1 h2
theorem wt_gt (h1 : WE X E B Γ e1 tInt.rl m1) (h2 : WE X E B Γ e2 tInt.rl m2) : WT X E B Γ (.Compare e1 [.Gt] [e2] pos) (m1 >>= fun a => m2 >>= fun b => pure (decide (b < a))) := wt_cmp op_gt v_B0 (nomark _) h1 h2
theorem wt_ge (h1 : WE X E B Γ e1 tInt.rl m1) (h2 : WE X E B Γ e2 tInt.rl m2) : WT X E B Γ (.Compare e1 [.GtE] [e2] pos) (m1 >>= fun a => m2 >>= fun b => pure (decide (b ≤ a))) := wt_cmp op_ge v_B0 (nomark _) h1 h2
end
/-! == of scalars -/
/-- the values of a type are scalars that == tells apart as the data -/
def EqS {α : Type} [DecidableEq α] (T : Ty α) : Prop := ∀ K F x y a b, T.rel K F x a → T.rel K F y b → scal x y = true ∧ (decide (x = y) = decide (a = b))
theorem eqs_int : EqS tInt := fun K F x y a b h1 h2 => by
  rw [show x = .int a from h1, show y = .int b from h2]
  exact ⟨rfl, by simp⟩
theorem eqs_bool : EqS tBool := fun K F x y a b h1 h2 => by
  rw [show x = .bl a from h1, show y = .bl b from h2]
  exact ⟨rfl, by simp⟩
theorem eqs_str : EqS tStr := fun K F x y a b h1 h2 => by
  rw [show x = .str a from h1, show y = .str b from h2]
  exact ⟨rfl, by simp⟩
theorem eqs_optI : EqS (tOpt tInt) := fun K F x y a b h1 h2 => by
  cases a with
  | none =>
    rw [show x = .non from h1]
    cases b with
    | none =>
      rw [show y = .non from h2]
      exact ⟨rfl, by simp⟩
    | some j =>
      rw [show y = .int j from h2.2]
      exact ⟨rfl, by simp⟩
  | some i =>
    rw [show x = .int i from h1.2]
    cases b with
    | none =>
      rw [show y = .non from h2]
      exact ⟨rfl, by simp⟩
    | some j =>
      rw [show y = .int j from h2.2]
      exact ⟨rfl, by simp⟩
theorem v_eq {K : PySem.W.Frag} {α : Type} [DecidableEq α] {T : Ty α} (q : EqS T) : VOp K rEq T.rl T.rl tBool.rl (fun a b => pure (decide (a = b))) := fun F H x y a b Q J s h1 h2 p => by
  obtain ⟨q1, q2⟩ := q K F x y a b h1 h2
  exact ⟨q1, p _ F H (Stp.refl s) (by rw [q2] <;> rfl)⟩
theorem v_ne {K : PySem.W.Frag} {α : Type} [DecidableEq α] {T : Ty α} (q : EqS T) : VOp K rNe T.rl T.rl tBool.rl (fun a b => pure (!decide (a = b))) := fun F H x y a b Q J s h1 h2 p => by
  obtain ⟨q1, q2⟩ := q K F x y a b h1 h2
  exact ⟨q1, p _ F H (Stp.refl s) (by rw [q2] <;> rfl)⟩
section
variable {e1 e2 : Expr} {α : Type} [DecidableEq α] {T : Ty α} {m1 m2 : Out α} {pos : Pos}
theorem we_eq (q : EqS T) (h1 : WE X E B Γ e1 T.rl m1) (h2 : WE X E B Γ e2 T.rl m2) : WE X E B Γ (.Compare e1 [.Eq] [e2] pos) tBool.rl (m1 >>= fun a => m2 >>= fun b => pure (decide (a = b))) := we_cmp op_eq (v_eq q) (nomark _) h1 h2
theorem we_ne (q : EqS T) (h1 : WE X E B Γ e1 T.rl m1) (h2 : WE X E B Γ e2 T.rl m2) : WE X E B Γ (.Compare e1 [.NotEq] [e2] pos) tBool.rl (m1 >>= fun a => m2 >>= fun b => pure (!decide (a = b))) := we_cmp op_ne (v_ne q) (nomark _) h1 h2
theorem wt_eq (q : EqS T) (h1 : WE X E B Γ e1 T.rl m1) (h2 : WE X E B Γ e2 T.rl m2) : WT X E B Γ (.Compare e1 [.Eq] [e2] pos) (m1 >>= fun a => m2 >>= fun b => pure (decide (a = b))) := wt_cmp op_eq (v_eq q) (nomark _) h1 h2
theorem wt_ne (q : EqS T) (h1 : WE X E B Γ e1 T.rl m1) (h2 : WE X E B Γ e2 T.rl m2) : WT X E B Γ (.Compare e1 [.NotEq] [e2] pos) (m1 >>= fun a => m2 >>= fun b => pure (!decide (a = b))) := wt_cmp op_ne (v_ne q) (nomark _) h1 h2
end
/-- is None -/
theorem tOpt_non {K : PySem.W.Frag} {F : Hp} {α : Type} {T : Ty α} {x : V} {a : Option α} (h : (tOpt T).rel K F x a) : decide (x = .non) = a.isNone := by
  cases a with
  | none => rw [show x = .non from h]; rfl
  | some b => exact decide_eq_false h.1
theorem v_isN {K : PySem.W.Frag} {α : Type} {T : Ty α} : VOp K (fun x y H Q => y = .non ∧ Q (.bl (decide (x = .non))) H) (tOpt T).rl tNon.rl tBool.rl (fun a _ => pure a.isNone) := fun F H x y a b Q J s h1 h2 p => ⟨h2, p _ F H (Stp.refl s) (by rw [tOpt_non h1] <;> rfl)⟩
theorem v_notN {K : PySem.W.Frag} {α : Type} {T : Ty α} : VOp K (fun x y H Q => y = .non ∧ Q (.bl (!decide (x = .non))) H) (tOpt T).rl tNon.rl tBool.rl (fun a _ => pure a.isSome) := fun F H x y a b Q J s h1 h2 p => ⟨h2, p _ F H (Stp.refl s) (by
  rw [tOpt_non h1]
  cases a <;> rfl)⟩
section
variable {e1 e2 : Expr} {α : Type} {T : Ty α} {m1 : Out (Option α)} {j : Nat} {p2 pos : Pos}
theorem we_isN (h1 : WE X E B Γ e1 (tOpt T).rl m1) : WE X E B Γ (.Compare e1 [.Is] [.Constant .none j p2] pos) tBool.rl (m1 >>= fun a => pure a.isNone) := we_cmp op_isN v_isN (nomark _) h1 we_non
theorem we_notN (h1 : WE X E B Γ e1 (tOpt T).rl m1) : WE X E B Γ (.Compare e1 [.IsNot] [.Constant .none j p2] pos) tBool.rl (m1 >>= fun a => pure a.isSome) := we_cmp op_notN v_notN (nomark _) h1 we_non
theorem wt_isN (h1 : WE X E B Γ e1 (tOpt T).rl m1) : WT X E B Γ (.Compare e1 [.Is] [.Constant .none j p2] pos) (m1 >>= fun a => pure a.isNone) := wt_cmp op_isN v_isN (nomark _) h1 we_non
theorem wt_notN (h1 : WE X E B Γ e1 (tOpt T).rl m1) : WT X E B Γ (.Compare e1 [.IsNot] [.Constant .none j p2] pos) (m1 >>= fun a => pure a.isSome) := wt_cmp op_notN v_notN (nomark _) h1 we_non
end
/-- chains of two comparisons of ints: a op b op' c -/
theorem wt_chain {op op' : CmpOp} {g g' : Int → Int → Bool} (ho : OpR X (compareOp op) (rI0 fun i j => .bl (g i j))) (ho' : OpR X (compareOp op') (rI0 fun i j => .bl (g' i j))) {e1 e2 e3 : Expr} {m1 m2 m3 : Out Int} {pos : Pos}
    (h1 : WE X E B Γ e1 tInt.rl m1) (h2 : WE X E B Γ e2 tInt.rl m2) (h3 : WE X E B Γ e3 tInt.rl m3) (hm : lastMarks [op, op'] [e2, e3] = false := by with_unfolding_all rfl) :
    WT X E B Γ (.Compare e1 [op, op'] [e2, e3] pos) (m1 >>= fun a => m2 >>= fun b => if g a b = true then m3 >>= fun c => pure (g' b c) else pure false) := fun σ F H ω Q e p => by
  refine ⟨_, pt_chain ho ho' pe_s pe_s pe_s hm, ?_⟩
  refine h1 σ F H ω _ e (p.bind.imp fun a q v1 F1 H1 s1 r1 => ?_)
  refine h2 σ F1 H1 ω _ (e.stp s1) (q.bind.imp fun b q v2 F2 H2 s2 r2 => ?_)
  refine ⟨a, b, r1, r2, g a b, rfl, ?_⟩
  cases hg : g a b with
  | false =>
    rw [hg] at q
    exact ⟨false, rfl, q F2 H2 (s1.trans s2)⟩
  | true =>
    rw [hg] at q
    refine h3 σ F2 H2 ω _ ((e.stp s1).stp s2) (Post.imp (Post.bind q) fun c q v3 F3 H3 s3 r3 => ?_)
    exact ⟨b, c, r2, r3, g' b c, rfl, q F3 H3 ((s1.trans s2).trans s3)⟩
theorem we_chain {op op' : CmpOp} {g g' : Int → Int → Bool} (ho : OpR X (compareOp op) (rI0 fun i j => .bl (g i j))) (ho' : OpR X (compareOp op') (rI0 fun i j => .bl (g' i j))) {e1 e2 e3 : Expr} {m1 m2 m3 : Out Int} {pos : Pos}
    (h1 : WE X E B Γ e1 tInt.rl m1) (h2 : WE X E B Γ e2 tInt.rl m2) (h3 : WE X E B Γ e3 tInt.rl m3) (hm : lastMarks [op, op'] [e2, e3] = false := by with_unfolding_all rfl) :
    WE X E B Γ (.Compare e1 [op, op'] [e2, e3] pos) tBool.rl (m1 >>= fun a => m2 >>= fun b => if g a b = true then m3 >>= fun c => pure (g' b c) else pure false) := fun σ F H ω Q e p => by
  refine ⟨_, pe_chain ho ho' pe_s pe_s pe_s hm, ?_⟩
  refine h1 σ F H ω _ e (p.bind.imp fun a q v1 F1 H1 s1 r1 => ?_)
  refine h2 σ F1 H1 ω _ (e.stp s1) (q.bind.imp fun b q v2 F2 H2 s2 r2 => ?_)
  refine ⟨a, b, r1, r2, g a b, rfl, ?_⟩
  cases hg : g a b with
  | false =>
    rw [hg] at q
    exact q _ F2 H2 (s1.trans s2) rfl
  | true =>
    rw [hg] at q
    refine h3 σ F2 H2 ω _ ((e.stp s1).stp s2) (Post.imp (Post.bind q) fun c q v3 F3 H3 s3 r3 => ?_)
    exact ⟨b, c, r2, r3, q _ F3 H3 ((s1.trans s2).trans s3) rfl⟩

/-! ### tests -/
/-- any expression that is a bool, as a test -/
theorem wt_val {e : Expr} {m : Out Bool} (h : WE X E B Γ e tBool.rl m) (he : ∀ whole, isTrue e X.env whole = (do let v ← whole; standAt e.pos; holding [v] (truthy v)) := by intro _; rfl) : WT X E B Γ e m :=
  fun σ F H ω Q en p => ⟨_, pt_val pe_s he, h σ F H ω _ en (p.imp fun b q v F' H' s r => ⟨b, r, q F' H' s⟩)⟩
theorem wt_not {e : Expr} {m : Out Bool} {pos : Pos} (h : WT X E B Γ e m) : WT X E B Γ (.UnaryOp .Not e pos) (m >>= fun b => pure (!b)) :=
  fun σ F H ω Q en p => ⟨_, pt_not pt_s, h σ F H ω _ en (p.bind.imp fun b q F' H' s => q F' H' s)⟩
/-- and, or: WB tells the rest of the operands, whatever the whole is -/
def WB (X : Cx) (E : XK) (B : Bs) (Γ : List Slot) (e : Expr) (m : Out Bool) : Prop :=
  ∀ σ F H ω Q, EnvOk X.K B Γ σ F H ω → Post m (fun b => ∀ F' H', Stp F H F' H' → Q b H') (RB X.K B E) → ∃ t, PW X e t ∧ t σ H Q
theorem pw_s {e : Expr} : PW X e (fun σ H Q => ∃ t, PW X e t ∧ t σ H Q) := ⟨fun wh pins s σ H Q I ⟨_, p, h⟩ => p.run wh pins s σ H Q I h⟩
theorem wb_and1 {e : Expr} {m : Out Bool} {pos : Pos} (h : WT X E B Γ e m) : WB X E B Γ (.BoolOp .And [e] pos) m := fun σ F H ω Q en p => ⟨_, pw_and1 pt_s, h σ F H ω Q en p⟩
theorem wb_or1 {e : Expr} {m : Out Bool} {pos : Pos} (h : WT X E B Γ e m) : WB X E B Γ (.BoolOp .Or [e] pos) m := fun σ F H ω Q en p => ⟨_, pw_or1 pt_s, h σ F H ω Q en p⟩
theorem wb_and {a b : Expr} {rest : List Expr} {m n : Out Bool} {pos : Pos} (h1 : WT X E B Γ a m) (h2 : WB X E B Γ (.BoolOp .And (b :: rest) pos) n) : WB X E B Γ (.BoolOp .And (a :: b :: rest) pos) (m >>= fun c => if c = true then n else pure false) := fun σ F H ω Q en p => by
  refine ⟨_, pw_and pt_s pw_s, ?_⟩
  refine h1 σ F H ω _ en (p.bind.imp fun c q F1 H1 s1 => ?_)
  cases c with
  | true => exact h2 σ F1 H1 ω Q (en.stp s1) (Post.imp q fun b q F' H' s => q F' H' (s1.trans s))
  | false => exact q F1 H1 s1
theorem wb_or {a b : Expr} {rest : List Expr} {m n : Out Bool} {pos : Pos} (h1 : WT X E B Γ a m) (h2 : WB X E B Γ (.BoolOp .Or (b :: rest) pos) n) : WB X E B Γ (.BoolOp .Or (a :: b :: rest) pos) (m >>= fun c => if c = true then pure true else n) := fun σ F H ω Q en p => by
  refine ⟨_, pw_or pt_s pw_s, ?_⟩
  refine h1 σ F H ω _ en (p.bind.imp fun c q F1 H1 s1 => ?_)
  cases c with
  | false => exact h2 σ F1 H1 ω Q (en.stp s1) (Post.imp q fun b q F' H' s => q F' H' (s1.trans s))
  | true => exact q F1 H1 s1
theorem wt_b {e : Expr} {m : Out Bool} (h : WB X E B Γ e m) : WT X E B Γ e m := fun σ F H ω Q en p =>
  let ⟨_, q, r⟩ := h σ F H ω Q en p
  ⟨_, q.pt, r⟩
/-- .. as values, of bools -/
theorem we_bo1 {op : BoolOp} {e : Expr} {m : Out Bool} {pos : Pos} (h : WE X E B Γ e tBool.rl m) : WE X E B Γ (.BoolOp op [e] pos) tBool.rl m := fun σ F H ω Q en p => ⟨_, pe_one pe_s, h σ F H ω Q en p⟩
theorem we_and {a b : Expr} {rest : List Expr} {m n : Out Bool} {pos : Pos} (h1 : WE X E B Γ a tBool.rl m) (h2 : WE X E B Γ (.BoolOp .And (b :: rest) pos) tBool.rl n) : WE X E B Γ (.BoolOp .And (a :: b :: rest) pos) tBool.rl (m >>= fun c => if c = true then n else pure false) := fun σ F H ω Q en p => by
  refine ⟨_, pe_and pe_s pe_s, ?_⟩
  refine h1 σ F H ω _ en (p.bind.imp fun c q v F1 H1 s1 r => ⟨c, r, ?_⟩)
  cases c with
  | true => exact h2 σ F1 H1 ω Q (en.stp s1) (Post.imp q fun b q v F' H' s => q v F' H' (s1.trans s))
  | false => exact q _ F1 H1 s1 rfl
theorem we_or {a b : Expr} {rest : List Expr} {m n : Out Bool} {pos : Pos} (h1 : WE X E B Γ a tBool.rl m) (h2 : WE X E B Γ (.BoolOp .Or (b :: rest) pos) tBool.rl n) : WE X E B Γ (.BoolOp .Or (a :: b :: rest) pos) tBool.rl (m >>= fun c => if c = true then pure true else n) := fun σ F H ω Q en p => by
  refine ⟨_, pe_or pe_s pe_s, ?_⟩
  refine h1 σ F H ω _ en (p.bind.imp fun c q v F1 H1 s1 r => ⟨c, r, ?_⟩)
  cases c with
  | false => exact h2 σ F1 H1 ω Q (en.stp s1) (Post.imp q fun b q v F' H' s => q v F' H' (s1.trans s))
  | true => exact q _ F1 H1 s1 rfl
theorem we_not {e : Expr} {m : Out Bool} {pos : Pos} (h : WE X E B Γ e tBool.rl m) : WE X E B Γ (.UnaryOp .Not e pos) tBool.rl (m >>= fun b => pure (!b)) :=
  fun σ F H ω Q en p => ⟨_, pe_not pe_s, h σ F H ω _ en (p.bind.imp fun b q v F' H' s r => ⟨b, r, q _ F' H' s rfl⟩)⟩
theorem we_neg {e : Expr} {m : Out Int} {pos : Pos} (h : WE X E B Γ e tInt.rl m) : WE X E B Γ (.UnaryOp .USub e pos) tInt.rl (m >>= fun b => pure (-b)) :=
  fun σ F H ω Q en p => ⟨_, pe_un un_neg pe_s, h σ F H ω _ en (p.bind.imp fun b q v F' H' s r => ⟨b, r, q _ F' H' s rfl⟩)⟩
theorem we_if {c a b : Expr} {α : Type} {R : Rl α} {mc : Out Bool} {m n : Out α} {pos : Pos} (hc : WT X E B Γ c mc) (h1 : WE X E B Γ a R m) (h2 : WE X E B Γ b R n) : WE X E B Γ (.IfExp c a b pos) R (mc >>= fun t => if t = true then m else n) := fun σ F H ω Q en p => by
  refine ⟨_, pe_ifExp pt_s pe_s pe_s, ?_⟩
  refine hc σ F H ω _ en (p.bind.imp fun c q F1 H1 s1 => ?_)
  cases c with
  | true => exact h1 σ F1 H1 ω Q (en.stp s1) (Post.imp q fun b q v F' H' s => q v F' H' (s1.trans s))
  | false => exact h2 σ F1 H1 ω Q (en.stp s1) (Post.imp q fun b q v F' H' s => q v F' H' (s1.trans s))
/-- a sequence's truth -/
theorem fa2_empty {α : Type} {R : V → α → Prop} {vs : List V} {as : List α} (h : Fa2 R vs as) : vs.isEmpty = as.isEmpty := by cases h <;> rfl
theorem wt_lst {e : Expr} {α : Type} {T : Ty α} {m : Out (List α)} (h : WE X E B Γ e (rLst T) m) (he : ∀ whole, isTrue e X.env whole = (do let v ← whole; standAt e.pos; holding [v] (truthy v)) := by intro _; rfl) : WT X E B Γ e (m >>= fun a => pure (!a.isEmpty)) :=
  fun σ F H ω Q en p => ⟨_, pt_truth pe_s he, h σ F H ω _ en (p.bind.imp fun a q v F' H' s ⟨p, vs, e, sq, r⟩ => ⟨!vs.isEmpty, by subst e; exact .inl ⟨vs, sq, rfl⟩, by
    rw [fa2_empty r]
    exact q F' H' s⟩)⟩
theorem wt_tup {e : Expr} {α : Type} {T : Ty α} {m : Out (List α)} (h : WE X E B Γ e (tTup T).rl m) (he : ∀ whole, isTrue e X.env whole = (do let v ← whole; standAt e.pos; holding [v] (truthy v)) := by intro _; rfl) : WT X E B Γ e (m >>= fun a => pure (!a.isEmpty)) :=
  fun σ F H ω Q en p => ⟨_, pt_truth pe_s he, h σ F H ω _ en (p.bind.imp fun a q v F' H' s ⟨p, vs, e, sq, r⟩ => ⟨!vs.isEmpty, by subst e; exact .inr (.inl ⟨vs, seqT s.fh sq, rfl⟩), by
    rw [fa2_empty r]
    exact q F' H' s⟩)⟩
end SL

set_option Elab.async false
set_option linter.all false
set_option maxRecDepth 100000
set_option maxHeartbeats 2000000
/-! SLc: rules of the typed layer: built-in calls, sequences, displays. -/
namespace SL
open PySem PySem.Spec PyProof.Rows L2
variable {X : Cx} {N : List Str} {sc : Scp} {k : Nat} {E : XK} {B : Bs} {Γ : List Slot}

abbrev GlN (sc : Scp) (x : Str) : Prop := sc.sc.names.lookup x = some .globalImplicit
/-- names that the module leaves to the built-ins -/
structure Fre (mg : Str → Option Value) : Prop where
  len : mg "len" = none
  range : mg "range" = none
  int : mg "int" = none
  isinstance : mg "isinstance" = none
  list : mg "list" = none
  tuple : mg "tuple" = none
  enumerate : mg "enumerate" = none
  max : mg "max" = none
  min : mg "min" = none
  sorted : mg "sorted" = none
  set : mg "set" = none
  any : mg "any" = none
  all : mg "all" = none
  sum : mg "sum" = none
  zip : mg "zip" = none
  abs : mg "abs" = none
  bool : mg "bool" = none
  str : mg "str" = none
  VE : mg "ValueError" = none
  reversed : mg "reversed" = none
theorem gl_ (C : XC X N sc k E) {x : Str} (h : GlN sc x) : Gl X x := by
  unfold Gl Env.kindOf
  rw [C.scp]
  exact h

/-! ### lengths of what is tracked -/
def LenOk (H : Hp) : Prop := ∀ p vs, (Rd H p (.lst vs) ∨ Rd H p (.tup vs)) → vs.length ≤ sizeLine
theorem len_inv {pins : List (Addr × Obj)} {σ : L2.St} {H : Hp} {s : Shared} (I : Inv X pins σ H s) : LenOk H := fun p vs h => by
  rcases h with h | h
  · exact (h.ok I.hok).1
  · exact (h.ok I.hok).1
theorem pe_len {e : Expr} {t : TE} (h : PE X e t) : PE X e (fun σ H Q => LenOk H → t σ H Q) := ⟨fun pins s σ H Q I q => h.run pins s σ H Q I (q (len_inv I))⟩
theorem pe_lenQ {e : Expr} {t : TE} (h : PE X e t) : PE X e (fun σ H Q => t σ H fun v H' => LenOk H' → Q v H') := ⟨fun pins s σ H Q I q =>
  thn (h.run pins s σ H _ I q) fun u s' ⟨v, H', I', r, q'⟩ => ⟨v, H', I', r, q' (len_inv I')⟩⟩
theorem sE_lenQ {e : Expr} {σ : L2.St} {H : Hp} {Q : VK} (h : sE X e σ H fun v H' => LenOk H' → Q v H') : sE X e σ H Q := ⟨_, pe_lenQ pe_s, h⟩
theorem sqL_len {K : PySem.W.Frag} {H : Hp} {p : Addr} {vs : List V} (h : SqL K H p vs) (l : LenOk H) : vs.length ≤ sizeLine := by
  rcases h with h | ⟨o, its, n, h1, h2, h3, h4, h5, h6⟩
  · exact l p vs (.inl h)
  · have := h6.length
    rw [this, Array.length_toList]
    exact h5
theorem sqT_len {K : PySem.W.Frag} {H : Hp} {p : Addr} {vs : List V} (h : SqT K H p vs) (l : LenOk H) : vs.length ≤ sizeLine := by
  rcases h with h | ⟨o, its, n, h1, h2, h3, h5, h6⟩
  · exact l p vs (.inr h)
  · have := h6.length
    rw [this, Array.length_toList]
    exact h5

/-! ### arguments -/
theorem pa1 {e : Expr} (hs : starEach (e :: []) X.env = (false, eval e X.env) :: starEach [] X.env) : PA X [e] (tCons (sE X e) tNil) := pa_cons pe_s pa_nil hs
theorem pa2 {e e2 : Expr} (hs : starEach (e :: e2 :: []) X.env = (false, eval e X.env) :: starEach (e2 :: []) X.env) (hs2 : starEach (e2 :: []) X.env = (false, eval e2 X.env) :: starEach [] X.env) : PA X [e, e2] (tCons (sE X e) (tCons (sE X e2) tNil)) := pa_cons pe_s (pa_cons pe_s pa_nil hs2) hs
/-- a built-in's answer on one, on two values -/
def VC1 (K : PySem.W.Frag) (r : List V → Hp → VK → Prop) {α γ : Type} (R : Rl α) (W : Rl γ) (f : α → Out γ) : Prop :=
  ∀ (F H : Hp) (x : V) (a : α) (Q : VK) (J : Err → Prop), Same F H → R.rel K F H x a → Post (f a) (fun c => ∀ v F' H', Stp F H F' H' → W.rel K F' H' v c → Q v H') J → r [x] H Q
def VC2 (K : PySem.W.Frag) (r : List V → Hp → VK → Prop) {α β γ : Type} (R : Rl α) (S : Rl β) (W : Rl γ) (f : α → β → Out γ) : Prop :=
  ∀ (F H : Hp) (x y : V) (a : α) (b : β) (Q : VK) (J : Err → Prop), Same F H → R.rel K F H x a → S.rel K F H y b → Post (f a b) (fun c => ∀ v F' H', Stp F H F' H' → W.rel K F' H' v c → Q v H') J → r [x, y] H Q
/-- .. that is new -/
def NC1 (K : PySem.W.Frag) (r : List V → Hp → VK → Prop) {α γ : Type} (R : Rl α) (O : Own γ) (f : α → Out γ) : Prop :=
  ∀ (F H : Hp) (x : V) (a : α) (Q : VK) (J : Err → Prop), Same F H → R.rel K F H x a → Post (f a) (fun c => ∀ v F' H' S, Stp F H F' H' → (∀ p, S p → F' p = none ∧ H' p ≠ none ∧ H p = none) → O.rel K F' H' S v c → Q v H') J → r [x] H Q
section
variable {x : Str} {id T : String} {r : List V → Hp → VK → Prop} {e e2 : Expr} {α β γ : Type} {R : Rl α} {S : Rl β} {W : Rl γ} {O : Own γ} {f : α → Out γ} {g : α → β → Out γ} {m : Out α} {m2 : Out β} {p pos : Pos}
theorem stp_none {F H F' H' : Hp} (s : Stp F H F' H') {p : Addr} (h : H' p = none) : H p = none := s.hh.free h
theorem cb1 (C : XC X N sc k E) (hc : CallR X (.builtin id) r) (hm : X.mg x = none) (hv : bootBuiltins x = some (.builtin id)) (hr : VC1 X.K r R W f) (h : WE X E B Γ e R m) (hg : GlN sc x)
    (hn : x ≠ "__name__" := by decide) (hdb : (x == ("__debug__" : Str)) = false := by decide) (he : starEach (e :: []) X.env = (false, eval e X.env) :: starEach [] X.env := by rfl) :
    WE X E B Γ (.Call (.Name x p) [e] [] pos) W (m >>= f) := fun σ F H ω Q en q =>
  ⟨_, pe_callB hc (gl_ C hg) hm hv (pa1 he) hn hdb he, h σ F H ω _ en (q.bind.imp fun a q v F' H' s rv => hr F' H' v a Q _ s.fh rv (q.imp fun c q v' F2 H2 s2 r2 => q v' F2 H2 (s.trans s2) r2))⟩
theorem ct1 (C : XC X N sc k E) (hc : CallR X (.type T) r) (hm : X.mg x = none) (hv : bootBuiltins x = some (.type T)) (hr : VC1 X.K r R W f) (h : WE X E B Γ e R m) (hg : GlN sc x)
    (hn : x ≠ "__name__" := by decide) (hdb : (x == ("__debug__" : Str)) = false := by decide) (he : starEach (e :: []) X.env = (false, eval e X.env) :: starEach [] X.env := by rfl) :
    WE X E B Γ (.Call (.Name x p) [e] [] pos) W (m >>= f) := fun σ F H ω Q en q =>
  ⟨_, pe_callTy hc (gl_ C hg) hm hv (pa1 he) hn hdb he, h σ F H ω _ en (q.bind.imp fun a q v F' H' s rv => hr F' H' v a Q _ s.fh rv (q.imp fun c q v' F2 H2 s2 r2 => q v' F2 H2 (s.trans s2) r2))⟩
theorem cb2 (C : XC X N sc k E) (hc : CallR X (.builtin id) r) (hm : X.mg x = none) (hv : bootBuiltins x = some (.builtin id)) (hr : VC2 X.K r R S W g) (h : WE X E B Γ e R m) (h2 : WE X E B Γ e2 S m2) (hg : GlN sc x)
    (hn : x ≠ "__name__" := by decide) (hdb : (x == ("__debug__" : Str)) = false := by decide) (he : starEach (e :: e2 :: []) X.env = (false, eval e X.env) :: starEach (e2 :: []) X.env := by rfl)
    (he2 : starEach (e2 :: []) X.env = (false, eval e2 X.env) :: starEach [] X.env := by rfl) (hpl : (backTo pos (starEach (e2 :: []) X.env)).any (·.1) = false := by rfl) :
    WE X E B Γ (.Call (.Name x p) [e, e2] [] pos) W (m >>= fun a => m2 >>= fun b => g a b) := fun σ F H ω Q en q =>
  ⟨_, pe_callB hc (gl_ C hg) hm hv (pa2 he he2) hn hdb he hpl, h σ F H ω _ en (q.bind.imp fun a q v F' H' s rv => h2 σ F' H' ω _ (en.stp s) (q.bind.imp fun b q v2 F2 H2 s2 rv2 =>
    hr F2 H2 v v2 a b Q _ s2.fh (R.mono s2 rv) rv2 (q.imp fun c q v' F3 H3 s3 r3 => q v' F3 H3 ((s.trans s2).trans s3) r3)))⟩
theorem new_of {F H F' H' F2 H2 : Hp} {S : Addr → Prop} (s : Stp F H F' H') (d : ∀ p, S p → F2 p = none ∧ H2 p ≠ none ∧ H' p = none) : ∀ p, S p → F2 p = none ∧ H2 p ≠ none ∧ H p = none := fun p hp => ⟨(d p hp).1, (d p hp).2.1, stp_none s (d p hp).2.2⟩
theorem cbO (C : XC X N sc k E) (hc : CallR X (.builtin id) r) (hm : X.mg x = none) (hv : bootBuiltins x = some (.builtin id)) (hr : NC1 X.K r R O f) (h : WE X E B Γ e R m) (hg : GlN sc x)
    (hn : x ≠ "__name__" := by decide) (hdb : (x == ("__debug__" : Str)) = false := by decide) (he : starEach (e :: []) X.env = (false, eval e X.env) :: starEach [] X.env := by rfl) :
    WO X E B Γ (.Call (.Name x p) [e] [] pos) O (m >>= f) := fun σ F H ω Q en q =>
  ⟨_, pe_callB hc (gl_ C hg) hm hv (pa1 he) hn hdb he, h σ F H ω _ en (q.bind.imp fun a q v F' H' s rv => hr F' H' v a Q _ s.fh rv (q.imp fun c q v' F2 H2 S s2 d r2 => q v' F2 H2 S (s.trans s2) (new_of s d) r2))⟩
theorem ctO (C : XC X N sc k E) (hc : CallR X (.type T) r) (hm : X.mg x = none) (hv : bootBuiltins x = some (.type T)) (hr : NC1 X.K r R O f) (h : WE X E B Γ e R m) (hg : GlN sc x)
    (hn : x ≠ "__name__" := by decide) (hdb : (x == ("__debug__" : Str)) = false := by decide) (he : starEach (e :: []) X.env = (false, eval e X.env) :: starEach [] X.env := by rfl) :
    WO X E B Γ (.Call (.Name x p) [e] [] pos) O (m >>= f) := fun σ F H ω Q en q =>
  ⟨_, pe_callTy hc (gl_ C hg) hm hv (pa1 he) hn hdb he, h σ F H ω _ en (q.bind.imp fun a q v F' H' s rv => hr F' H' v a Q _ s.fh rv (q.imp fun c q v' F2 H2 S s2 d r2 => q v' F2 H2 S (s.trans s2) (new_of s d) r2))⟩
end
/-- a new list at a free place -/
theorem new_lst {K : PySem.W.Frag} {F H : Hp} {α : Type} {T : Ty α} {p : Addr} {vs : List V} {as : List α} (s : Same F H) (n : H p = none) (r : Fa2 (T.rel K F) vs as) {Q : VK}
    (q : ∀ v F' H' (S : Addr → Prop), Stp F H F' H' → (∀ p, S p → F' p = none ∧ H' p ≠ none ∧ H p = none) → (oLst T).rel K F' H' S v as → Q v H') : Q (.ref p) (upd H p (.lst vs)) :=
  q (.ref p) F _ (fun a => a = p) (Stp.newH s n) (fun a e => by
    subst e
    exact ⟨s.free n, (by rw [upd_same]; exact fun z => nomatch z), n⟩) ⟨p, vs, rfl, rfl, upd_same, r⟩
theorem new_tup {K : PySem.W.Frag} {F H : Hp} {α : Type} {T : Ty α} {p : Addr} {vs : List V} {as : List α} (s : Same F H) (n : H p = none) (r : Fa2 (T.rel K F) vs as) {Q : VK}
    (q : ∀ v F' H', Stp F H F' H' → (tTup T).rl.rel K F' H' v as → Q v H') : Q (.ref p) (upd H p (.tup vs)) :=
  q (.ref p) _ _ (Stp.new s n) ⟨p, vs, rfl, SqT.of upd_same, r.imp fun _ _ h => T.mono (Stp.new (o := .tup vs) s n).ff h⟩
theorem fa2_int {K : PySem.W.Frag} {F : Hp} {vs : List V} {as : List Int} (h : Fa2 (tInt.rel K F) vs as) : vs = as.map V.int := by
  induction h with
  | nil => rfl
  | cons r _ ih => rw [ih, show _ = _ from r] <;> rfl
theorem fa2_bl {K : PySem.W.Frag} {F : Hp} {vs : List V} {as : List Bool} (h : Fa2 (tBool.rel K F) vs as) : vs = as.map V.bl := by
  induction h with
  | nil => rfl
  | cons r _ ih => rw [ih, show _ = _ from r] <;> rfl
theorem int_fa2 {K : PySem.W.Frag} {F : Hp} (as : List Int) : Fa2 (tInt.rel K F) (as.map V.int) as := by
  induction as with
  | nil => exact .nil
  | cons a r ih => exact .cons rfl ih

/-! ### len, list, tuple, sum, any, all, max, min, abs, int, sorted -/
def maxL : List Int → Out Int
  | [] => .stuck
  | x :: xs => pure (xs.foldl max x)
def minL : List Int → Out Int
  | [] => .stuck
  | x :: xs => pure (xs.foldl min x)
theorem foldl_max (xs : List Int) : ∀ x : Int, (xs.foldl max x ∈ x :: xs) ∧ ∀ y ∈ x :: xs, y ≤ xs.foldl max x := by
  induction xs with
  | nil => intro x; exact ⟨by simp, by simp⟩
  | cons z r ih =>
    intro x
    obtain ⟨h1, h2⟩ := ih (max x z)
    rw [List.foldl_cons]
    constructor
    · rcases List.mem_cons.mp h1 with h | h
      · rw [h]
        rcases Int.le_total x z with q | q
        · rw [Int.max_eq_right q]; simp
        · rw [Int.max_eq_left q]; simp
      · simp [h]
    · intro y hy
      have hm := h2 (max x z) (by simp)
      rcases List.mem_cons.mp hy with h | h
      · subst h; omega
      · rcases List.mem_cons.mp h with h | h
        · subst h; omega
        · exact h2 y (by simp [h])
theorem foldl_min (xs : List Int) : ∀ x : Int, (xs.foldl min x ∈ x :: xs) ∧ ∀ y ∈ x :: xs, xs.foldl min x ≤ y := by
  induction xs with
  | nil => intro x; exact ⟨by simp, by simp⟩
  | cons z r ih =>
    intro x
    obtain ⟨h1, h2⟩ := ih (min x z)
    rw [List.foldl_cons]
    constructor
    · rcases List.mem_cons.mp h1 with h | h
      · rw [h]
        rcases Int.le_total x z with q | q
        · rw [Int.min_eq_left q]; simp
        · rw [Int.min_eq_right q]; simp
      · simp [h]
    · intro y hy
      have hm := h2 (min x z) (by simp)
      rcases List.mem_cons.mp hy with h | h
      · subst h; omega
      · rcases List.mem_cons.mp h with h | h
        · subst h; omega
        · exact h2 y (by simp [h])
def sortI (xs : List Int) : List Int := xs.mergeSort (fun a b => decide (a ≤ b))
theorem sortI_perm (xs : List Int) : (sortI xs).Perm xs := List.mergeSort_perm _ _
theorem sortI_sorted (xs : List Int) : (sortI xs).Pairwise (· ≤ ·) := by
  have h := List.pairwise_mergeSort (le := fun a b : Int => decide (a ≤ b)) (fun a b c h1 h2 => by simp only [decide_eq_true_eq] at *; omega) (fun a b => by simp only [Bool.or_eq_true, decide_eq_true_eq]; omega) xs
  exact h.imp fun h => of_decide_eq_true h
theorem sorted_uniq : ∀ {xs ys : List Int}, xs.Perm ys → xs.Pairwise (· ≤ ·) → ys.Pairwise (· ≤ ·) → xs = ys
  | [], ys, p, _, _ => p.nil_eq
  | x :: xs, ys, p, h1, h2 => by
    cases ys with
    | nil => exact absurd p.length_eq (by simp)
    | cons y ys =>
      have hx : x ∈ y :: ys := p.mem_iff.mp (by simp)
      have hy : y ∈ x :: xs := p.mem_iff.mpr (by simp)
      have e : x = y := by
        have a1 : x ≤ y := by
          rcases List.mem_cons.mp hy with h | h
          · omega
          · exact (List.pairwise_cons.mp h1).1 y h
        have a2 : y ≤ x := by
          rcases List.mem_cons.mp hx with h | h
          · omega
          · exact (List.pairwise_cons.mp h2).1 x h
        omega
      subst e
      rw [sorted_uniq (List.Perm.cons_inv p) (List.pairwise_cons.mp h1).2 (List.pairwise_cons.mp h2).2]
section
variable {e e2 : Expr} {α : Type} {T : Ty α} {m : Out (List α)} {mi mj : Out Int} {ml : Out (List Int)} {mb : Out (List Bool)} {p pos : Pos}
theorem we_lenL (C : XC X N sc k E) (Z : Fre X.mg) (h : WE X E B Γ e (rLst T) m) (hg : GlN sc "len" := by rfl) (he : starEach (e :: []) X.env = (false, eval e X.env) :: starEach [] X.env := by rfl) :
    WE X E B Γ (.Call (.Name "len" p) [e] [] pos) tInt.rl (m >>= fun a => pure (a.length : Int)) :=
  cb1 (R := (rLst T)) C call_len_seq Z.len boot_len (fun F H x a Q J s ⟨p, vs, e, q, r⟩ po => ⟨p, vs, by rw [e], .inl q, by rw [r.len]; exact po _ F H (Stp.refl s) rfl⟩) h hg (he := he)
theorem we_lenT (C : XC X N sc k E) (Z : Fre X.mg) (h : WE X E B Γ e (tTup T).rl m) (hg : GlN sc "len" := by rfl) (he : starEach (e :: []) X.env = (false, eval e X.env) :: starEach [] X.env := by rfl) :
    WE X E B Γ (.Call (.Name "len" p) [e] [] pos) tInt.rl (m >>= fun a => pure (a.length : Int)) :=
  cb1 (R := (tTup T).rl) C call_len_seq Z.len boot_len (fun F H x a Q J s ⟨p, vs, e, q, r⟩ po => ⟨p, vs, by rw [e], .inr (seqT s q), by rw [r.len]; exact po _ F H (Stp.refl s) rfl⟩) h hg (he := he)
theorem wo_list (C : XC X N sc k E) (Z : Fre X.mg) (h : WE X E B Γ e (rLst T) m) (hg : GlN sc "list" := by rfl) (he : starEach (e :: []) X.env = (false, eval e X.env) :: starEach [] X.env := by rfl) :
    WO X E B Γ (.Call (.Name "list" p) [e] [] pos) (oLst T) (m >>= fun a => pure a) :=
  ctO (R := (rLst T)) C call_list_of Z.list (by decide +kernel) (fun F H x a Q J s ⟨p, vs, e, q, r⟩ po => ⟨p, vs, by rw [e], .inl q, fun l hl => new_lst s hl r po⟩) h hg (he := he)
theorem wo_listT (C : XC X N sc k E) (Z : Fre X.mg) (h : WE X E B Γ e (tTup T).rl m) (hg : GlN sc "list" := by rfl) (he : starEach (e :: []) X.env = (false, eval e X.env) :: starEach [] X.env := by rfl) :
    WO X E B Γ (.Call (.Name "list" p) [e] [] pos) (oLst T) (m >>= fun a => pure a) :=
  ctO (R := (tTup T).rl) C call_list_of Z.list (by decide +kernel) (fun F H x a Q J s ⟨p, vs, e, q, r⟩ po => ⟨p, vs, by rw [e], .inr (seqT s q), fun l hl => new_lst s hl r po⟩) h hg (he := he)
theorem we_tuple (C : XC X N sc k E) (Z : Fre X.mg) (h : WE X E B Γ e (rLst T) m) (hg : GlN sc "tuple" := by rfl) (he : starEach (e :: []) X.env = (false, eval e X.env) :: starEach [] X.env := by rfl) :
    WE X E B Γ (.Call (.Name "tuple" p) [e] [] pos) (tTup T).rl (m >>= fun a => pure a) :=
  ct1 (R := (rLst T)) C call_tuple_of Z.tuple (by decide +kernel) (fun F H x a Q J s ⟨p, vs, e, q, r⟩ po => ⟨p, vs, by rw [e], .inl ⟨q, fun l hl => new_tup s hl r po⟩⟩) h hg (he := he)
theorem we_tupleT (C : XC X N sc k E) (Z : Fre X.mg) (h : WE X E B Γ e (tTup T).rl m) (hg : GlN sc "tuple" := by rfl) (he : starEach (e :: []) X.env = (false, eval e X.env) :: starEach [] X.env := by rfl) :
    WE X E B Γ (.Call (.Name "tuple" p) [e] [] pos) (tTup T).rl (m >>= fun a => pure a) :=
  ct1 (R := (tTup T).rl) C call_tuple_of Z.tuple (by decide +kernel) (fun F H x a Q J s ⟨p, vs, e, q, r⟩ po => ⟨p, vs, by rw [e], .inr ⟨seqT s q, by
    subst e
    exact po _ F H (Stp.refl s) ⟨p, vs, rfl, q, r⟩⟩⟩) h hg (he := he)
theorem we_sum (C : XC X N sc k E) (Z : Fre X.mg) (h : WE X E B Γ e (rLst tInt) ml) (hg : GlN sc "sum" := by rfl) (he : starEach (e :: []) X.env = (false, eval e X.env) :: starEach [] X.env := by rfl) :
    WE X E B Γ (.Call (.Name "sum" p) [e] [] pos) tInt.rl (ml >>= fun a => pure a.sum) :=
  cb1 (R := (rLst tInt)) C (cr_sum C.calm) Z.sum (by decide +kernel) (fun F H x a Q J s ⟨p, vs, e, q, r⟩ po => ⟨p, a, by rw [e], by rw [← fa2_int r]; exact q, po _ F H (Stp.refl s) rfl⟩) h hg (he := he)
theorem we_any (C : XC X N sc k E) (Z : Fre X.mg) (h : WE X E B Γ e (rLst tBool) mb) (hg : GlN sc "any" := by rfl) (he : starEach (e :: []) X.env = (false, eval e X.env) :: starEach [] X.env := by rfl) :
    WE X E B Γ (.Call (.Name "any" p) [e] [] pos) tBool.rl (mb >>= fun a => pure (a.any id)) :=
  cb1 (R := (rLst tBool)) C (cr_any C.calm) Z.any (by decide +kernel) (fun F H x a Q J s ⟨p, vs, e, q, r⟩ po => ⟨p, a, by rw [e], by rw [← fa2_bl r]; exact q, po _ F H (Stp.refl s) rfl⟩) h hg (he := he)
theorem we_all (C : XC X N sc k E) (Z : Fre X.mg) (h : WE X E B Γ e (rLst tBool) mb) (hg : GlN sc "all" := by rfl) (he : starEach (e :: []) X.env = (false, eval e X.env) :: starEach [] X.env := by rfl) :
    WE X E B Γ (.Call (.Name "all" p) [e] [] pos) tBool.rl (mb >>= fun a => pure (a.all id)) :=
  cb1 (R := (rLst tBool)) C (cr_all C.calm) Z.all (by decide +kernel) (fun F H x a Q J s ⟨p, vs, e, q, r⟩ po => ⟨p, a, by rw [e], by rw [← fa2_bl r]; exact q, po _ F H (Stp.refl s) rfl⟩) h hg (he := he)
theorem we_maxL (C : XC X N sc k E) (Z : Fre X.mg) (h : WE X E B Γ e (rLst tInt) ml) (hg : GlN sc "max" := by rfl) (he : starEach (e :: []) X.env = (false, eval e X.env) :: starEach [] X.env := by rfl) :
    WE X E B Γ (.Call (.Name "max" p) [e] [] pos) tInt.rl (ml >>= maxL) :=
  cb1 (R := (rLst tInt)) C (cr_max C.calm) Z.max (by decide +kernel) (fun F H x a Q J s ⟨p, vs, e, q, r⟩ po => by
    cases a with
    | nil => exact po.elim
    | cons z zs =>
      refine ⟨p, z :: zs, by rw [e], by rw [← fa2_int r]; exact q, by simp, fun m h1 h2 => ?_⟩
      obtain ⟨g1, g2⟩ := foldl_max zs z
      have e2 : m = zs.foldl max z := Int.le_antisymm (g2 m h1) (h2 _ g1)
      rw [e2]
      exact po _ F H (Stp.refl s) rfl) h hg (he := he)
theorem we_minL (C : XC X N sc k E) (Z : Fre X.mg) (h : WE X E B Γ e (rLst tInt) ml) (hg : GlN sc "min" := by rfl) (he : starEach (e :: []) X.env = (false, eval e X.env) :: starEach [] X.env := by rfl) :
    WE X E B Γ (.Call (.Name "min" p) [e] [] pos) tInt.rl (ml >>= minL) :=
  cb1 (R := (rLst tInt)) C (cr_min C.calm) Z.min (by decide +kernel) (fun F H x a Q J s ⟨p, vs, e, q, r⟩ po => by
    cases a with
    | nil => exact po.elim
    | cons z zs =>
      refine ⟨p, z :: zs, by rw [e], by rw [← fa2_int r]; exact q, by simp, fun m h1 h2 => ?_⟩
      obtain ⟨g1, g2⟩ := foldl_min zs z
      have e2 : m = zs.foldl min z := Int.le_antisymm (h2 _ g1) (g2 m h1)
      rw [e2]
      exact po _ F H (Stp.refl s) rfl) h hg (he := he)
theorem we_max2 (C : XC X N sc k E) (Z : Fre X.mg) (h : WE X E B Γ e tInt.rl mi) (h2 : WE X E B Γ e2 tInt.rl mj) (hg : GlN sc "max" := by rfl) (he : starEach (e :: e2 :: []) X.env = (false, eval e X.env) :: starEach (e2 :: []) X.env := by rfl)
    (he2 : starEach (e2 :: []) X.env = (false, eval e2 X.env) :: starEach [] X.env := by rfl) (hpl : (backTo pos (starEach (e2 :: []) X.env)).any (·.1) = false := by rfl) :
    WE X E B Γ (.Call (.Name "max" p) [e, e2] [] pos) tInt.rl (mi >>= fun a => mj >>= fun b => pure (max a b)) :=
  cb2 C (call_max2 C.calm) Z.max (by decide +kernel) (fun F H x y a b Q J s h1 h2 po => ⟨a, b, by rw [show x = .int a from h1, show y = .int b from h2], by
    have e : (if b > a then b else a) = max a b := by
      by_cases c : b > a
      · rw [if_pos c]; omega
      · rw [if_neg c]; omega
    rw [e]
    exact po _ F H (Stp.refl s) rfl⟩) h h2 hg (he := he) (he2 := he2) (hpl := hpl)
theorem we_min2 (C : XC X N sc k E) (Z : Fre X.mg) (h : WE X E B Γ e tInt.rl mi) (h2 : WE X E B Γ e2 tInt.rl mj) (hg : GlN sc "min" := by rfl) (he : starEach (e :: e2 :: []) X.env = (false, eval e X.env) :: starEach (e2 :: []) X.env := by rfl)
    (he2 : starEach (e2 :: []) X.env = (false, eval e2 X.env) :: starEach [] X.env := by rfl) (hpl : (backTo pos (starEach (e2 :: []) X.env)).any (·.1) = false := by rfl) :
    WE X E B Γ (.Call (.Name "min" p) [e, e2] [] pos) tInt.rl (mi >>= fun a => mj >>= fun b => pure (min a b)) :=
  cb2 C (call_min2 C.calm) Z.min (by decide +kernel) (fun F H x y a b Q J s h1 h2 po => ⟨a, b, by rw [show x = .int a from h1, show y = .int b from h2], by
    have e : (if b < a then b else a) = min a b := by
      by_cases c : b < a
      · rw [if_pos c]; omega
      · rw [if_neg c]; omega
    rw [e]
    exact po _ F H (Stp.refl s) rfl⟩) h h2 hg (he := he) (he2 := he2) (hpl := hpl)
theorem we_abs (C : XC X N sc k E) (Z : Fre X.mg) (h : WE X E B Γ e tInt.rl mi) (hg : GlN sc "abs" := by rfl) (he : starEach (e :: []) X.env = (false, eval e X.env) :: starEach [] X.env := by rfl) :
    WE X E B Γ (.Call (.Name "abs" p) [e] [] pos) tInt.rl (mi >>= fun a => pure (if a < 0 then -a else a)) :=
  cb1 (R := tInt.rl) C call_abs Z.abs (by decide +kernel) (fun F H x a Q J s h1 po => ⟨a, by rw [show x = .int a from h1], po _ F H (Stp.refl s) rfl⟩) h hg (he := he)
theorem we_intI (C : XC X N sc k E) (Z : Fre X.mg) (h : WE X E B Γ e tInt.rl mi) (hg : GlN sc "int" := by rfl) (he : starEach (e :: []) X.env = (false, eval e X.env) :: starEach [] X.env := by rfl) :
    WE X E B Γ (.Call (.Name "int" p) [e] [] pos) tInt.rl (mi >>= fun a => pure a) :=
  ct1 (R := tInt.rl) C call_int1 Z.int boot_int (fun F H x a Q J s h1 po => .inl ⟨a, by rw [show x = .int a from h1], po _ F H (Stp.refl s) rfl⟩) h hg (he := he)
theorem we_intB {mb : Out Bool} (C : XC X N sc k E) (Z : Fre X.mg) (h : WE X E B Γ e tBool.rl mb) (hg : GlN sc "int" := by rfl) (he : starEach (e :: []) X.env = (false, eval e X.env) :: starEach [] X.env := by rfl) :
    WE X E B Γ (.Call (.Name "int" p) [e] [] pos) tInt.rl (mb >>= fun a => pure (if a = true then 1 else 0)) :=
  ct1 (R := tBool.rl) C call_int1 Z.int boot_int (fun F H x a Q J s h1 po => .inr ⟨a, by rw [show x = .bl a from h1], po _ F H (Stp.refl s) rfl⟩) h hg (he := he)
theorem wo_sorted (C : XC X N sc k E) (Z : Fre X.mg) (h : WE X E B Γ e (rLst tInt) ml) (hg : GlN sc "sorted" := by rfl) (he : starEach (e :: []) X.env = (false, eval e X.env) :: starEach [] X.env := by rfl) :
    WO X E B Γ (.Call (.Name "sorted" p) [e] [] pos) (oLst tInt) (ml >>= fun a => pure (sortI a)) :=
  cbO (R := (rLst tInt)) C cr_sortedI Z.sorted (by decide +kernel) (fun F H x a Q J s ⟨p, vs, e, q, r⟩ po => ⟨p, a, by rw [e], by rw [← fa2_int r]; exact q, fun ns' p' h1 h2 h3 => by
    have e2 : ns' = sortI a := sorted_uniq (h1.trans (sortI_perm a).symm) h2 (sortI_sorted a)
    rw [e2]
    exact new_lst s h3 (int_fa2 _) po⟩) h hg (he := he)
end

/-! ### subscripts -/
def idx {α : Type} (xs : List α) (i : Int) : Out α := match atI xs i with
  | some v => pure v
  | none => .stuck
theorem fa2_at {α : Type} {R : V → α → Prop} {vs : List V} {as : List α} (h : Fa2 R vs as) {i : Int} {a : α} (e : atI as i = some a) : ∃ v, atI vs i = some v ∧ R v a := by
  unfold atI at e ⊢
  rw [h.len]
  cases q : ixN as.length i with
  | none => rw [q] at e; cases e
  | some j =>
    rw [q] at e
    exact h.get (show as[j]? = some a from e)
theorem two_ix {r : R2} (hi : IxR X r) {e1 e2 : Expr} {α β γ : Type} {R : Rl α} {S : Rl β} {W : Rl γ} {f : α → β → Out γ} {m1 : Out α} {m2 : Out β} {pos : Pos} (hr : VOp X.K r R S W f)
    (h1 : WE X E B Γ e1 R m1) (h2 : WE X E B Γ e2 S m2) (hs : PlainIx e2) : WE X E B Γ (.Subscript e1 e2 pos) W (m1 >>= fun a => m2 >>= fun b => f a b) :=
  fun σ F H ω Q e p => ⟨_, pe_ix hi pe_s pe_s hs, two_ h1 h2 hr e p⟩
section
variable {e1 e2 : Expr} {α β γ : Type} {T : Ty α} {U : Ty β} {W : Ty γ} {m : Out (List α)} {mi : Out Int} {m2 : Out (α × β)} {m3 : Out (α × β × γ)} {pos p2 : Pos} {j : Nat}
theorem we_ixL (h1 : WE X E B Γ e1 (rLst T) m) (h2 : WE X E B Γ e2 tInt.rl mi) (hs : PlainIx e2 := by intro _ _; rfl) : WE X E B Γ (.Subscript e1 e2 pos) T.rl (m >>= fun a => mi >>= fun i => idx a i) :=
  two_ix (R := (rLst T)) (S := tInt.rl) ix_list (fun F H x y a b Q J s ⟨p, vs, e, q, r⟩ h2 po => by
    unfold idx at po
    cases q2 : atI a b with
    | none => rw [q2] at po; exact po.elim
    | some z =>
      rw [q2] at po
      obtain ⟨v, hv, rv⟩ := fa2_at r q2
      exact ⟨p, vs, b, v, e, h2, q, hv, po v F H (Stp.refl s) rv⟩) h1 h2 hs
theorem we_ixT (h1 : WE X E B Γ e1 (tTup T).rl m) (h2 : WE X E B Γ e2 tInt.rl mi) (hs : PlainIx e2 := by intro _ _; rfl) : WE X E B Γ (.Subscript e1 e2 pos) T.rl (m >>= fun a => mi >>= fun i => idx a i) :=
  two_ix (R := (tTup T).rl) (S := tInt.rl) ix_tup (fun F H x y a b Q J s ⟨p, vs, e, q, r⟩ h2 po => by
    unfold idx at po
    cases q2 : atI a b with
    | none => rw [q2] at po; exact po.elim
    | some z =>
      rw [q2] at po
      obtain ⟨v, hv, rv⟩ := fa2_at r q2
      exact ⟨p, vs, b, v, e, h2, seqT s q, hv, po v F H (Stp.refl s) rv⟩) h1 h2 hs
end
/-- a written int -/
def cI (i : Int) : Rl Unit := ⟨fun _ _ _ v _ => v = .int i, fun _ h => h⟩
theorem we_intC {i : Int} {j : Nat} {pos : Pos} : WE X E B Γ (.Constant (.int i) j pos) (cI i) (pure ()) := fun σ F H ω Q e p => ⟨_, pe_int, p _ F H (Stp.refl e.fh) rfl⟩
/-- the things of R are sequences with a T at place i -/
def PrjAt {α β : Type} (R : Rl α) (i : Int) (T : Ty β) (π : α → β) : Prop := ∀ K F H v a, Same F H → R.rel K F H v a → ∃ p vs w, v = .ref p ∧ (SqL K H p vs ∨ SqT K H p vs) ∧ atI vs i = some w ∧ T.rel K F w (π a)
theorem we_prj {e : Expr} {α β : Type} {R : Rl α} {T : Ty β} {π : α → β} {m : Out α} {i : Int} {j : Nat} {pos p2 : Pos} (hp : PrjAt R i T π) (h : WE X E B Γ e R m) : WE X E B Γ (.Subscript e (.Constant (.int i) j p2) pos) T.rl (m >>= fun a => pure (π a)) :=
  two_ix (R := R) (S := cI i) (m2 := pure ()) (f := fun a _ => pure (π a)) (ix_list.or ix_tup) (fun F H x y a b Q J s h1 h2 po => by
    obtain ⟨p, vs, w, e, q, hw, r⟩ := hp _ F H x a s h1
    rcases q with q | q
    · exact .inl ⟨p, vs, i, w, e, h2, q, hw, po w F H (Stp.refl s) r⟩
    · exact .inr ⟨p, vs, i, w, e, h2, q, hw, po w F H (Stp.refl s) r⟩) h we_intC (fun _ _ => rfl)
section
variable {α β γ δ : Type} {T : Ty α} {U : Ty β} {W : Ty γ} {V4 : Ty δ}
theorem pj10 : PrjAt (tT1 T).rl 0 T (fun a => a) := fun K F H v a s h => by
  obtain ⟨p, v1, e, q, r1⟩ := h
  exact ⟨p, _, v1, e, .inr (seqT s q), rfl, r1⟩
theorem pj20 : PrjAt (tT2 T U).rl 0 T (fun a => a.1) := fun K F H v a s h => by
  obtain ⟨p, v1, v2, e, q, r1, r2⟩ := h
  exact ⟨p, _, v1, e, .inr (seqT s q), rfl, r1⟩
theorem pj21 : PrjAt (tT2 T U).rl 1 U (fun a => a.2) := fun K F H v a s h => by
  obtain ⟨p, v1, v2, e, q, r1, r2⟩ := h
  exact ⟨p, _, v2, e, .inr (seqT s q), rfl, r2⟩
theorem pj30 : PrjAt (tT3 T U W).rl 0 T (fun a => a.1) := fun K F H v a s h => by
  obtain ⟨p, v1, v2, v3, e, q, r1, r2, r3⟩ := h
  exact ⟨p, _, v1, e, .inr (seqT s q), rfl, r1⟩
theorem pj31 : PrjAt (tT3 T U W).rl 1 U (fun a => a.2.1) := fun K F H v a s h => by
  obtain ⟨p, v1, v2, v3, e, q, r1, r2, r3⟩ := h
  exact ⟨p, _, v2, e, .inr (seqT s q), rfl, r2⟩
theorem pj32 : PrjAt (tT3 T U W).rl 2 W (fun a => a.2.2) := fun K F H v a s h => by
  obtain ⟨p, v1, v2, v3, e, q, r1, r2, r3⟩ := h
  exact ⟨p, _, v3, e, .inr (seqT s q), rfl, r3⟩
theorem pl20 : PrjAt (tL2 T U).rl 0 T (fun a => a.1) := fun K F H v a s h => by
  obtain ⟨p, v1, v2, e, q, r1, r2⟩ := h
  exact ⟨p, _, v1, e, .inl (SqL.of (s _ _ q)), rfl, r1⟩
theorem pl21 : PrjAt (tL2 T U).rl 1 U (fun a => a.2) := fun K F H v a s h => by
  obtain ⟨p, v1, v2, e, q, r1, r2⟩ := h
  exact ⟨p, _, v2, e, .inl (SqL.of (s _ _ q)), rfl, r2⟩
theorem pl30 : PrjAt (tL3 T U W).rl 0 T (fun a => a.1) := fun K F H v a s h => by
  obtain ⟨p, v1, v2, v3, e, q, r1, r2, r3⟩ := h
  exact ⟨p, _, v1, e, .inl (SqL.of (s _ _ q)), rfl, r1⟩
theorem pl31 : PrjAt (tL3 T U W).rl 1 U (fun a => a.2.1) := fun K F H v a s h => by
  obtain ⟨p, v1, v2, v3, e, q, r1, r2, r3⟩ := h
  exact ⟨p, _, v2, e, .inl (SqL.of (s _ _ q)), rfl, r2⟩
theorem pl32 : PrjAt (tL3 T U W).rl 2 W (fun a => a.2.2) := fun K F H v a s h => by
  obtain ⟨p, v1, v2, v3, e, q, r1, r2, r3⟩ := h
  exact ⟨p, _, v3, e, .inl (SqL.of (s _ _ q)), rfl, r3⟩
/-- a pair of two alike as a tuple, as a list -/
theorem t2_tup (K : PySem.W.Frag) (F H : Hp) (v : V) (a : α × α) (s : Same F H) (h : (tT2 T T).rl.rel K F H v a) : (tTup T).rl.rel K F H v [a.1, a.2] := by
  obtain ⟨p, v1, v2, e, q, r1, r2⟩ := h
  exact ⟨p, _, e, q, .cons r1 (.cons r2 .nil)⟩
theorem t3_tup (K : PySem.W.Frag) (F H : Hp) (v : V) (a : α × α × α) (s : Same F H) (h : (tT3 T T T).rl.rel K F H v a) : (tTup T).rl.rel K F H v [a.1, a.2.1, a.2.2] := by
  obtain ⟨p, v1, v2, v3, e, q, r1, r2, r3⟩ := h
  exact ⟨p, _, e, q, .cons r1 (.cons r2 (.cons r3 .nil))⟩
theorem l2_lst (K : PySem.W.Frag) (F H : Hp) (v : V) (a : α × α) (s : Same F H) (h : (tL2 T T).rl.rel K F H v a) : (tLst T).rl.rel K F H v [a.1, a.2] := by
  obtain ⟨p, v1, v2, e, q, r1, r2⟩ := h
  exact ⟨p, _, e, q, .cons r1 (.cons r2 .nil)⟩
end

/-! ### slices, joins -/
def cut {α : Type} (xs : List α) (lo hi : Option Int) : List α := (xs.drop (HT.sIx xs.length 0 lo)).take (HT.sIx xs.length xs.length hi - HT.sIx xs.length 0 lo)
theorem fa2_cut {α : Type} {R : V → α → Prop} {vs : List V} {as : List α} (h : Fa2 R vs as) (lo hi : Option Int) : Fa2 R (cutV vs lo hi) (cut as lo hi) := by
  unfold cutV cut
  rw [h.len]
  exact (h.drop _).take _
def sO (X : Cx) (e : Option Expr) : TO := fun σ H Q => ∃ t, PO X e t ∧ t σ H Q
theorem po_s {e : Option Expr} : PO X e (sO X e) := ⟨fun pins s σ H Q I ⟨_, p, h⟩ => p.run pins s σ H Q I h⟩
def WP (X : Cx) (E : XK) (B : Bs) (Γ : List Slot) (e : Option Expr) (m : Out (Option Int)) : Prop :=
  ∀ σ F H ω Q, EnvOk X.K B Γ σ F H ω → Post m (fun a => ∀ F' H', Stp F H F' H' → Q a H') (RB X.K B E) → sO X e σ H Q
theorem wp_no : WP X E B Γ none (pure none) := fun σ F H ω Q en p => ⟨_, po_none, p F H (Stp.refl en.fh)⟩
theorem wp_is {e : Expr} {m : Out Int} (h : WE X E B Γ e tInt.rl m) : WP X E B Γ (some e) (m >>= fun i => pure (some i)) := fun σ F H ω Q en p =>
  ⟨_, po_some pe_s, h σ F H ω _ en (p.bind.imp fun i q v F' H' s r => ⟨i, r, q F' H' s⟩)⟩
section
variable {e e2 : Expr} {lo hi : Option Expr} {α : Type} {T : Ty α} {m m2 : Out (List α)} {ml mh : Out (Option Int)} {mi : Out Int} {pos p2 : Pos}
theorem wo_cut (h : WE X E B Γ e (rLst T) m) (hl : WP X E B Γ lo ml) (hh : WP X E B Γ hi mh) : WO X E B Γ (.Subscript e (.Slice lo hi none p2) pos) (oLst T) (m >>= fun a => ml >>= fun l => mh >>= fun u => pure (cut a l u)) := fun σ F H ω Q en p => by
  refine ⟨_, pe_slice sl_list pe_s po_s po_s, ?_⟩
  refine h σ F H ω _ en (p.bind.imp fun a q v F1 H1 s1 r1 => ?_)
  refine hl σ F1 H1 ω _ (en.stp s1) (q.bind.imp fun l q F2 H2 s2 => ?_)
  refine hh σ F2 H2 ω _ ((en.stp s1).stp s2) (q.bind.imp fun u q F3 H3 s3 => ?_)
  obtain ⟨p, vs, e, sq, r⟩ := (rLst T).mono (s2.trans s3) r1
  exact ⟨p, vs, e, sq, fun d hd => new_lst s3.fh hd (fa2_cut r l u) fun v F4 H4 S s4 d r => q v F4 H4 S (((s1.trans s2).trans s3).trans s4) (new_of ((s1.trans s2).trans s3) d) r⟩
theorem we_cutT (h : WE X E B Γ e (tTup T).rl m) (hl : WP X E B Γ lo ml) (hh : WP X E B Γ hi mh) : WE X E B Γ (.Subscript e (.Slice lo hi none p2) pos) (tTup T).rl (m >>= fun a => ml >>= fun l => mh >>= fun u => pure (cut a l u)) := fun σ F H ω Q en p => by
  refine ⟨_, pe_slice sl_tupA pe_s po_s po_s, ?_⟩
  refine h σ F H ω _ en (p.bind.imp fun a q v F1 H1 s1 r1 => ?_)
  refine hl σ F1 H1 ω _ (en.stp s1) (q.bind.imp fun l q F2 H2 s2 => ?_)
  refine hh σ F2 H2 ω _ ((en.stp s1).stp s2) (q.bind.imp fun u q F3 H3 s3 => ?_)
  obtain ⟨p, vs, e, sq, r⟩ := (tTup T).mono (s2.trans s3).ff r1
  refine ⟨p, vs, e, seqT s3.fh sq, fun hw => ?_, fun hw d hd => new_tup s3.fh hd (fa2_cut r l u) fun v F4 H4 s4 r => q v F4 H4 (((s1.trans s2).trans s3).trans s4) r⟩
  refine q _ F3 H3 ((s1.trans s2).trans s3) ⟨p, vs, rfl, sq, ?_⟩
  have ew : cut a l u = a := by
    unfold cut
    rw [← r.len, hw.1, hw.2, List.drop_zero, Nat.sub_zero, r.len, List.take_length]
  rw [ew]
  exact r
/-- xs + ys -/
def catO {α : Type} (xs ys : List α) : Out (List α) := if xs.length + ys.length ≤ 16777216 then pure (xs ++ ys) else .stuck
theorem wo_cat (h : WE X E B Γ e (rLstH T) m) (h2 : WE X E B Γ e2 (rLstH T) m2) : WO X E B Γ (.BinOp e .Add e2 pos) (oLst T) (m >>= fun a => m2 >>= fun b => catO a b) := fun σ F H ω Q en p => by
  refine ⟨_, pe_op op_cat pe_s pe_s, ?_⟩
  refine h σ F H ω _ en (p.bind.imp fun a q v F1 H1 s1 r1 => ?_)
  refine h2 σ F1 H1 ω _ (en.stp s1) (q.bind.imp fun b q v2 F2 H2 s2 r2 => ?_)
  obtain ⟨p, vs, e, h1, r1⟩ := (rLstH T).mono s2 r1
  obtain ⟨p2, ws, e2, h2, r2⟩ := r2
  unfold catO at q
  by_cases c : a.length + b.length ≤ 16777216
  · rw [if_pos c] at q
    exact ⟨p, p2, vs, ws, e, e2, h1, h2, by rw [r1.len, r2.len, sizeLine_eq]; exact c, fun d hd => new_lst s2.fh hd (r1.app r2) fun v F4 H4 S s4 d r => q v F4 H4 S ((s1.trans s2).trans s4) (new_of (s1.trans s2) d) r⟩
  · rw [if_neg c] at q
    exact q.elim
theorem we_catT (h : WE X E B Γ e (tTup T).rl m) (h2 : WE X E B Γ e2 (tTup T).rl m2) : WE X E B Γ (.BinOp e .Add e2 pos) (tTup T).rl (m >>= fun a => m2 >>= fun b => catO a b) :=
  we_op (R := (tTup T).rl) (S := (tTup T).rl) op_catA (fun F H x y a b Q J s ⟨p, vs, e, q1, r1⟩ ⟨p2, ws, e2, q2, r2⟩ po => by
    unfold catO at po
    by_cases c : a.length + b.length ≤ 16777216
    · rw [if_pos c] at po
      refine ⟨p, p2, vs, ws, e, e2, seqT s q1, seqT s q2, by rw [r1.len, r2.len, sizeLine_eq]; exact c, fun z => ?_, fun z1 z2 => ?_, fun z1 z2 d hd => new_tup s hd (r1.app r2) po⟩
      · subst z
        cases r1
        exact po _ F H (Stp.refl s) ⟨p2, ws, rfl, q2, r2⟩
      · subst z2
        cases r2
        exact po _ F H (Stp.refl s) ⟨p, vs, rfl, q1, by rw [List.append_nil]; exact r1⟩
    · rw [if_neg c] at po
      exact po.elim) h h2
/-- xs * n -/
def repO {α : Type} (xs : List α) (n : Int) : Out (List α) := if 0 ≤ n ∧ (xs.length : Int) * n ≤ 16777216 ∧ n ≤ 16777216 then pure (List.replicate n.toNat xs).flatten else .stuck
theorem fa2_rep {α : Type} {R : V → α → Prop} {vs : List V} {as : List α} (h : Fa2 R vs as) : ∀ n : Nat, Fa2 R (List.replicate n vs).flatten (List.replicate n as).flatten
  | 0 => .nil
  | n + 1 => by
    rw [List.replicate_succ, List.replicate_succ, List.flatten_cons, List.flatten_cons]
    exact h.app (fa2_rep h n)
theorem wo_rep (h : WE X E B Γ e (rLstH T) m) (h2 : WE X E B Γ e2 tInt.rl mi) : WO X E B Γ (.BinOp e .Mult e2 pos) (oLst T) (m >>= fun a => mi >>= fun n => repO a n) := fun σ F H ω Q en p => by
  refine ⟨_, pe_op op_rep pe_s pe_s, ?_⟩
  refine h σ F H ω _ en (p.bind.imp fun a q v F1 H1 s1 r1 => ?_)
  refine h2 σ F1 H1 ω _ (en.stp s1) (q.bind.imp fun n q v2 F2 H2 s2 r2 => ?_)
  obtain ⟨p, vs, e, h1, r1⟩ := (rLstH T).mono s2 r1
  unfold repO at q
  by_cases c : 0 ≤ n ∧ (a.length : Int) * n ≤ 16777216 ∧ n ≤ 16777216
  · rw [if_pos c] at q
    refine ⟨p, n, vs, e, r2, h1, by omega, by omega, ?_, fun d hd => new_lst s2.fh hd (fa2_rep r1 _) fun v F4 H4 S s4 d r => q v F4 H4 S ((s1.trans s2).trans s4) (new_of (s1.trans s2) d) r⟩
    rw [r1.len, sizeLine_eq]
    have hn : ((n.toNat : Nat) : Int) = n := Int.toNat_of_nonneg c.1
    have := c.2.1
    rw [← hn] at this
    exact Int.ofNat_le.mp (by simpa using this)
  · rw [if_neg c] at q
    exact q.elim
/-- xs[::-1] -/
theorem wo_rev {j : Nat} {p1 p3 : Pos} (h : WE X E B Γ e (rLst T) m) : WO X E B Γ (.Subscript e (.Slice none none (some (.UnaryOp .USub (.Constant (.int 1) j p1) p2)) p3) pos) (oLst T) (m >>= fun a => pure a.reverse) := fun σ F H ω Q en p => by
  refine ⟨_, pe_revL pe_s, ?_⟩
  refine h σ F H ω _ en (p.bind.imp fun a q v F1 H1 s1 r1 => ?_)
  obtain ⟨p, vs, e, sq, r⟩ := r1
  exact ⟨p, vs, e, sq, fun d hd => new_lst s1.fh hd r.rev fun v F4 H4 S s4 d r => q v F4 H4 S (s1.trans s4) (new_of s1 d) r⟩
end

/-! ### in, not in -/
def EqF {α : Type} [DecidableEq α] (T : Ty α) : Prop := ∀ K F x y a b, T.rel K F x a → T.rel K F y b → flatV x = true ∧ eqV y x = decide (a = b)
theorem eqf_int : EqF tInt := fun K F x y a b h1 h2 => by
  rw [show x = .int a from h1, show y = .int b from h2]
  refine ⟨rfl, ?_⟩
  show (b == a) = decide (a = b)
  by_cases h : a = b
  · subst h; simp
  · simp [h, Ne.symm h]
theorem inV_eq {K : PySem.W.Frag} {F : Hp} {α : Type} [DecidableEq α] {T : Ty α} (q : EqF T) {x : V} {a : α} (hx : T.rel K F x a) : ∀ {vs : List V} {as : List α}, Fa2 (T.rel K F) vs as → vs.all flatV = true ∧ inV x vs = decide (a ∈ as)
  | _, _, .nil => ⟨rfl, by simp [inV]⟩
  | v :: vs, b :: as, .cons r t => by
    obtain ⟨h1, h2⟩ := inV_eq q hx t
    obtain ⟨f1, f2⟩ := q K F x v a b hx r
    obtain ⟨g1, _⟩ := q K F v x b a r hx
    refine ⟨by rw [List.all_cons, g1, h1] <;> rfl, ?_⟩
    unfold inV at h2 ⊢
    rw [List.any_cons, f2, h2]
    simp only [List.mem_cons]
    by_cases c : a = b <;> simp [c]
section
variable {e1 e2 : Expr} {α : Type} [DecidableEq α] {T : Ty α} {m1 : Out α} {m2 : Out (List α)} {pos : Pos}
theorem v_inL {K : PySem.W.Frag} (q : EqF T) : VOp K (rIn K false) T.rl (rLst T) tBool.rl (fun a as => pure (decide (a ∈ as))) := fun F H x y a b Q J s h1 ⟨p, vs, e, sq, r⟩ po => by
  obtain ⟨g1, g2⟩ := inV_eq q h1 r
  have fx : flatV x = true := (q _ F x x a a h1 h1).1
  exact ⟨p, vs, e, .inl sq, fx, g1, by rw [if_neg Bool.false_ne_true, g2]; exact po _ F H (Stp.refl s) rfl⟩
theorem v_inT {K : PySem.W.Frag} (q : EqF T) : VOp K (rIn K false) T.rl (tTup T).rl tBool.rl (fun a as => pure (decide (a ∈ as))) := fun F H x y a b Q J s h1 ⟨p, vs, e, sq, r⟩ po => by
  obtain ⟨g1, g2⟩ := inV_eq q h1 r
  have fx : flatV x = true := (q _ F x x a a h1 h1).1
  exact ⟨p, vs, e, .inr (seqT s sq), fx, g1, by rw [if_neg Bool.false_ne_true, g2]; exact po _ F H (Stp.refl s) rfl⟩
theorem v_niL {K : PySem.W.Frag} (q : EqF T) : VOp K (rIn K true) T.rl (rLst T) tBool.rl (fun a as => pure (!decide (a ∈ as))) := fun F H x y a b Q J s h1 ⟨p, vs, e, sq, r⟩ po => by
  obtain ⟨g1, g2⟩ := inV_eq q h1 r
  have fx : flatV x = true := (q _ F x x a a h1 h1).1
  exact ⟨p, vs, e, .inl sq, fx, g1, by rw [if_pos rfl, g2]; exact po _ F H (Stp.refl s) rfl⟩
theorem v_niT {K : PySem.W.Frag} (q : EqF T) : VOp K (rIn K true) T.rl (tTup T).rl tBool.rl (fun a as => pure (!decide (a ∈ as))) := fun F H x y a b Q J s h1 ⟨p, vs, e, sq, r⟩ po => by
  obtain ⟨g1, g2⟩ := inV_eq q h1 r
  have fx : flatV x = true := (q _ F x x a a h1 h1).1
  exact ⟨p, vs, e, .inr (seqT s sq), fx, g1, by rw [if_pos rfl, g2]; exact po _ F H (Stp.refl s) rfl⟩
theorem we_inL (q : EqF T) (h1 : WE X E B Γ e1 T.rl m1) (h2 : WE X E B Γ e2 (rLst T) m2) (hm : behindInMarks .In e2 = false := by with_unfolding_all rfl) : WE X E B Γ (.Compare e1 [.In] [e2] pos) tBool.rl (m1 >>= fun a => m2 >>= fun as => pure (decide (a ∈ as))) := we_cmp op_in_seq (v_inL q) hm h1 h2
theorem wt_inL (q : EqF T) (h1 : WE X E B Γ e1 T.rl m1) (h2 : WE X E B Γ e2 (rLst T) m2) (hm : behindInMarks .In e2 = false := by with_unfolding_all rfl) : WT X E B Γ (.Compare e1 [.In] [e2] pos) (m1 >>= fun a => m2 >>= fun as => pure (decide (a ∈ as))) := wt_cmp op_in_seq (v_inL q) hm h1 h2
theorem we_inT (q : EqF T) (h1 : WE X E B Γ e1 T.rl m1) (h2 : WE X E B Γ e2 (tTup T).rl m2) (hm : behindInMarks .In e2 = false := by with_unfolding_all rfl) : WE X E B Γ (.Compare e1 [.In] [e2] pos) tBool.rl (m1 >>= fun a => m2 >>= fun as => pure (decide (a ∈ as))) := we_cmp op_in_seq (v_inT q) hm h1 h2
theorem wt_inT (q : EqF T) (h1 : WE X E B Γ e1 T.rl m1) (h2 : WE X E B Γ e2 (tTup T).rl m2) (hm : behindInMarks .In e2 = false := by with_unfolding_all rfl) : WT X E B Γ (.Compare e1 [.In] [e2] pos) (m1 >>= fun a => m2 >>= fun as => pure (decide (a ∈ as))) := wt_cmp op_in_seq (v_inT q) hm h1 h2
theorem we_niL (q : EqF T) (h1 : WE X E B Γ e1 T.rl m1) (h2 : WE X E B Γ e2 (rLst T) m2) (hm : behindInMarks .NotIn e2 = false := by with_unfolding_all rfl) : WE X E B Γ (.Compare e1 [.NotIn] [e2] pos) tBool.rl (m1 >>= fun a => m2 >>= fun as => pure (!decide (a ∈ as))) := we_cmp op_notIn_seq (v_niL q) hm h1 h2
theorem wt_niL (q : EqF T) (h1 : WE X E B Γ e1 T.rl m1) (h2 : WE X E B Γ e2 (rLst T) m2) (hm : behindInMarks .NotIn e2 = false := by with_unfolding_all rfl) : WT X E B Γ (.Compare e1 [.NotIn] [e2] pos) (m1 >>= fun a => m2 >>= fun as => pure (!decide (a ∈ as))) := wt_cmp op_notIn_seq (v_niL q) hm h1 h2
theorem we_niT (q : EqF T) (h1 : WE X E B Γ e1 T.rl m1) (h2 : WE X E B Γ e2 (tTup T).rl m2) (hm : behindInMarks .NotIn e2 = false := by with_unfolding_all rfl) : WE X E B Γ (.Compare e1 [.NotIn] [e2] pos) tBool.rl (m1 >>= fun a => m2 >>= fun as => pure (!decide (a ∈ as))) := we_cmp op_notIn_seq (v_niT q) hm h1 h2
theorem wt_niT (q : EqF T) (h1 : WE X E B Γ e1 T.rl m1) (h2 : WE X E B Γ e2 (tTup T).rl m2) (hm : behindInMarks .NotIn e2 = false := by with_unfolding_all rfl) : WT X E B Γ (.Compare e1 [.NotIn] [e2] pos) (m1 >>= fun a => m2 >>= fun as => pure (!decide (a ∈ as))) := wt_cmp op_notIn_seq (v_niT q) hm h1 h2
end

/-! ### arguments in a row, displays -/
def WAc (X : Cx) (E : XK) (B : Bs) (Γ : List Slot) (es : List Expr) {β : Type} (c : PySem.W.Frag → Hp → Hp → List V → Out β → Prop) (m : Out β) : Prop :=
  ∀ σ F H ω (P : β → Prop) (Q : List V → Hp → Prop), EnvOk X.K B Γ σ F H ω → Post m P (RB X.K B E) → (∀ vs F' H' o, Stp F H F' H' → c X.K F' H' vs o → Post o P (RB X.K B E) → Q vs H') → sA X es σ H Q
theorem wa_nil {β : Type} {c : PySem.W.Frag → Hp → Hp → List V → Out β → Prop} {m : Out β} (h : ∀ K F H, Same F H → c K F H [] m) : WAc X E B Γ [] c m := fun σ F H ω P Q en p q => ⟨_, pa_nil, q [] F H m (Stp.refl en.fh) (h _ _ _ en.fh) p⟩
theorem wa_cons {β α : Type} {e : Expr} {es : List Expr} {R : Rl α} {m : Out α} {f : α → Out β} {c : PySem.W.Frag → Hp → Hp → List V → Out β → Prop} (h : WE X E B Γ e R m)
    (hr : ∀ a, WAc X E B Γ es (fun K F H vs o => ∀ v, R.rel K F H v a → c K F H (v :: vs) o) (f a)) (hs : starEach (e :: es) X.env = (false, eval e X.env) :: starEach es X.env := by rfl) : WAc X E B Γ (e :: es) c (m >>= f) := fun σ F H ω P Q en p q => by
  refine ⟨_, pa_cons pe_s pa_s hs, ?_⟩
  refine h σ F H ω _ en (p.bind.imp fun a po v F1 H1 s1 r1 => ?_)
  exact hr a σ F1 H1 ω P _ (en.stp s1) po fun vs F2 H2 o s2 hc ho => q (v :: vs) F2 H2 o (s1.trans s2) (hc v (R.mono s2 r1)) ho
/-- a written tuple, a written list, of whatever type -/
def SeqC (h : List V → HO) {α : Type} (T : Ty α) (K : PySem.W.Frag) (F _H : Hp) (vs : List V) (o : Out α) : Prop := ∃ a, o = pure a ∧ vs.length ≤ 1000 ∧ ∀ p F', Same F F' → F' p = some (h vs) → T.rel K F' (.ref p) a
theorem le_line {n : Nat} (h : n ≤ 1000) : n ≤ sizeLine := Nat.le_trans h (by decide)
theorem we_tupd {es : List Expr} {α : Type} {T : Ty α} {m : Out α} {j : Nat} {pos : Pos} (h : WAc X E B Γ es (SeqC .tup T) m) : WE X E B Γ (.Tuple es j pos) T.rl m := fun σ F H ω Q en p =>
  ⟨_, pe_tup pa_s, h σ F H ω _ _ en p fun vs F' H' o s ⟨a, e, hl, hT⟩ po => ⟨le_line hl, fun d hd => by
    subst e
    exact po (.ref d) _ _ (s.trans (Stp.new s.fh hd)) (hT d _ (Stp.new (o := .tup vs) s.fh hd).ff upd_same)⟩⟩
theorem we_lstd {es : List Expr} {α : Type} {T : Ty α} {m : Out α} {pos : Pos} (h : WAc X E B Γ es (SeqC .lst T) m) : WE X E B Γ (.List es pos) T.rl m := fun σ F H ω Q en p =>
  ⟨_, pe_lst pa_s, h σ F H ω _ _ en p fun vs F' H' o s ⟨a, e, hl, hT⟩ po => ⟨le_line hl, fun d hd => by
    subst e
    exact po (.ref d) _ _ (s.trans (Stp.new s.fh hd)) (hT d _ (Stp.new (o := .lst vs) s.fh hd).ff upd_same)⟩⟩
section
variable {e1 e2 e3 : Expr} {α β γ : Type} {T : Ty α} {U : Ty β} {W : Ty γ} {m1 : Out α} {m2 : Out β} {m3 : Out γ} {j : Nat} {pos : Pos}
theorem we_t1 (h1 : WE X E B Γ e1 T.rl m1) (s1 : starEach (e1 :: []) X.env = (false, eval e1 X.env) :: starEach [] X.env := by rfl) : WE X E B Γ (.Tuple [e1] j pos) (tT1 T).rl (m1 >>= fun a => pure a) :=
  we_tupd (wa_cons h1 (fun a => wa_nil fun K F H s v1 r1 => ⟨a, rfl, by simp, fun p F' s e => ⟨p, v1, rfl, SqT.of e, T.mono s r1⟩⟩) s1)
theorem we_t2 (h1 : WE X E B Γ e1 T.rl m1) (h2 : WE X E B Γ e2 U.rl m2) (s1 : starEach (e1 :: e2 :: []) X.env = (false, eval e1 X.env) :: starEach (e2 :: []) X.env := by rfl) (s2 : starEach (e2 :: []) X.env = (false, eval e2 X.env) :: starEach [] X.env := by rfl) :
    WE X E B Γ (.Tuple [e1, e2] j pos) (tT2 T U).rl (m1 >>= fun a => m2 >>= fun b => pure (a, b)) :=
  we_tupd (wa_cons h1 (fun a => wa_cons h2 (fun b => wa_nil fun K F H s v2 r2 v1 r1 => ⟨(a, b), rfl, by simp, fun p F' s e => ⟨p, v1, v2, rfl, SqT.of e, T.mono s r1, U.mono s r2⟩⟩) s2) s1)
theorem we_t3 (h1 : WE X E B Γ e1 T.rl m1) (h2 : WE X E B Γ e2 U.rl m2) (h3 : WE X E B Γ e3 W.rl m3) (s1 : starEach (e1 :: e2 :: e3 :: []) X.env = (false, eval e1 X.env) :: starEach (e2 :: e3 :: []) X.env := by rfl)
    (s2 : starEach (e2 :: e3 :: []) X.env = (false, eval e2 X.env) :: starEach (e3 :: []) X.env := by rfl) (s3 : starEach (e3 :: []) X.env = (false, eval e3 X.env) :: starEach [] X.env := by rfl) :
    WE X E B Γ (.Tuple [e1, e2, e3] j pos) (tT3 T U W).rl (m1 >>= fun a => m2 >>= fun b => m3 >>= fun c => pure (a, b, c)) :=
  we_tupd (wa_cons h1 (fun a => wa_cons h2 (fun b => wa_cons h3 (fun c => wa_nil fun K F H s v3 r3 v2 r2 v1 r1 => ⟨(a, b, c), rfl, by simp, fun p F' s e => ⟨p, v1, v2, v3, rfl, SqT.of e, T.mono s r1, U.mono s r2, W.mono s r3⟩⟩) s3) s2) s1)
theorem we_l2 (h1 : WE X E B Γ e1 T.rl m1) (h2 : WE X E B Γ e2 U.rl m2) (s1 : starEach (e1 :: e2 :: []) X.env = (false, eval e1 X.env) :: starEach (e2 :: []) X.env := by rfl) (s2 : starEach (e2 :: []) X.env = (false, eval e2 X.env) :: starEach [] X.env := by rfl) :
    WE X E B Γ (.List [e1, e2] pos) (tL2 T U).rl (m1 >>= fun a => m2 >>= fun b => pure (a, b)) :=
  we_lstd (wa_cons h1 (fun a => wa_cons h2 (fun b => wa_nil fun K F H s v2 r2 v1 r1 => ⟨(a, b), rfl, by simp, fun p F' s e => ⟨p, v1, v2, rfl, e, T.mono s r1, U.mono s r2⟩⟩) s2) s1)
theorem we_l3 (h1 : WE X E B Γ e1 T.rl m1) (h2 : WE X E B Γ e2 U.rl m2) (h3 : WE X E B Γ e3 W.rl m3) (s1 : starEach (e1 :: e2 :: e3 :: []) X.env = (false, eval e1 X.env) :: starEach (e2 :: e3 :: []) X.env := by rfl)
    (s2 : starEach (e2 :: e3 :: []) X.env = (false, eval e2 X.env) :: starEach (e3 :: []) X.env := by rfl) (s3 : starEach (e3 :: []) X.env = (false, eval e3 X.env) :: starEach [] X.env := by rfl) :
    WE X E B Γ (.List [e1, e2, e3] pos) (tL3 T U W).rl (m1 >>= fun a => m2 >>= fun b => m3 >>= fun c => pure (a, b, c)) :=
  we_lstd (wa_cons h1 (fun a => wa_cons h2 (fun b => wa_cons h3 (fun c => wa_nil fun K F H s v3 r3 v2 r2 v1 r1 => ⟨(a, b, c), rfl, by simp, fun p F' s e => ⟨p, v1, v2, v3, rfl, e, T.mono s r1, U.mono s r2, W.mono s r3⟩⟩) s3) s2) s1)
end
/-- items that are alike -/
def WAL (X : Cx) (E : XK) (B : Bs) (Γ : List Slot) (es : List Expr) {α : Type} (T : Ty α) (m : Out (List α)) : Prop :=
  ∀ σ F H ω (Q : List V → Hp → Prop), EnvOk X.K B Γ σ F H ω → Post m (fun as => ∀ vs F' H', Stp F H F' H' → vs.length = es.length → Fa2 (T.rel X.K F') vs as → Q vs H') (RB X.K B E) → sA X es σ H Q
theorem wal_nil {α : Type} {T : Ty α} : WAL X E B Γ [] T (pure []) := fun σ F H ω Q en p => ⟨_, pa_nil, p [] F H (Stp.refl en.fh) rfl .nil⟩
theorem wal_cons {α : Type} {T : Ty α} {e : Expr} {es : List Expr} {m : Out α} {n : Out (List α)} (h : WE X E B Γ e T.rl m) (hr : WAL X E B Γ es T n) (hs : starEach (e :: es) X.env = (false, eval e X.env) :: starEach es X.env := by rfl) :
    WAL X E B Γ (e :: es) T (m >>= fun a => n >>= fun as => pure (a :: as)) := fun σ F H ω Q en p => by
  refine ⟨_, pa_cons pe_s pa_s hs, ?_⟩
  refine h σ F H ω _ en (p.bind.imp fun a po v F1 H1 s1 r1 => ?_)
  exact hr σ F1 H1 ω _ (en.stp s1) (po.bind.imp fun as q vs F2 H2 s2 l r2 => q (v :: vs) F2 H2 (s1.trans s2) (by rw [List.length_cons, List.length_cons, l]) (.cons (T.mono s2.ff r1) r2))
theorem wo_lst {α : Type} {T : Ty α} {es : List Expr} {m : Out (List α)} {pos : Pos} (h : WAL X E B Γ es T m) (hn : es.length ≤ 1000 := by decide) : WO X E B Γ (.List es pos) (oLst T) m := fun σ F H ω Q en p =>
  ⟨_, pe_lst pa_s, h σ F H ω _ en (p.imp fun as q vs F' H' s l r => ⟨le_line (by rw [l]; exact hn), fun d hd => new_lst s.fh hd r fun v F4 H4 S s4 dd r => q v F4 H4 S (s.trans s4) (new_of s dd) r⟩)⟩
theorem we_tupl {α : Type} {T : Ty α} {es : List Expr} {m : Out (List α)} {j : Nat} {pos : Pos} (h : WAL X E B Γ es T m) (hn : es.length ≤ 1000 := by decide) : WE X E B Γ (.Tuple es j pos) (tTup T).rl m := fun σ F H ω Q en p =>
  ⟨_, pe_tup pa_s, h σ F H ω _ en (p.imp fun as q vs F' H' s l r => ⟨le_line (by rw [l]; exact hn), fun d hd => new_tup s.fh hd r fun v F4 H4 s4 r => q v F4 H4 (s.trans s4) r⟩)⟩
end SL

set_option Elab.async false
set_option linter.all false
set_option maxRecDepth 100000
set_option maxHeartbeats 2000000
/-! SLd: defs and their calls; what is walked; comprehensions. -/
namespace SL
open PySem PySem.Spec PyProof.Rows L2
variable {X : Cx} {N : List Str} {sc : Scp} {k : Nat} {E : XK} {B : Bs} {Γ : List Slot}

/-! ### parameters -/
structure Par (ι : Type) where
  n : Nat
  rel : PySem.W.Frag → Hp → List V → ι → Prop
  slots : ι → List Slot
  len : ∀ {K F vs i}, rel K F vs i → vs.length = n
  slen : ∀ i, (slots i).length = n
  ok : ∀ {K F vs i}, rel K F vs i → ∀ (H : Hp) (S : Addr → Prop) (j : Nat) (s : Slot), (slots i)[j]? = some s → s.ok K F H S vs[j]?
def pN : Par Unit := ⟨0, fun _ _ vs _ => vs = [], fun _ => [], fun h => by rw [h]; rfl, fun _ => rfl, fun _ _ _ j s h => by simp at h⟩
def pC {α ι : Type} (T : Ty α) (P : Par ι) : Par (α × ι) where
  n := P.n + 1
  rel := fun K F vs i => ∃ v ws, vs = v :: ws ∧ T.rel K F v i.1 ∧ P.rel K F ws i.2
  slots := fun i => iS T i.1 :: P.slots i.2
  len := fun ⟨v, ws, e, _, r⟩ => by rw [e, List.length_cons, P.len r]
  slen := fun i => by rw [List.length_cons, P.slen]
  ok := fun ⟨v, ws, e, r1, r2⟩ H S j s h => by
    subst e
    cases j with
    | zero =>
      simp only [List.getElem?_cons_zero, Option.some.injEq] at h
      subst h
      exact ⟨v, rfl, r1⟩
    | succ j =>
      simp only [List.getElem?_cons_succ] at h ⊢
      exact P.ok r2 H S j s h

/-! ### promises -/
def Sps {ι β : Type} (P : Par ι) (m : ι → Out β) (T : Ty β) (K : PySem.W.Frag) : Sp := fun vs H Q E => ∃ (i : ι) (F : Hp), Same F H ∧ P.rel K F vs i ∧
  Post (m i) (fun b => ∀ v F' H', Stp F H F' H' → T.rel K F' v b → Q v H') (fun x => ∀ cls d F' H', Stp F H F' H' → ErrOk K F' x cls d → E cls d H')
/-- .. that hand back a new thing -/
def SpsO {ι β : Type} (P : Par ι) (m : ι → Out β) (O : Own β) (K : PySem.W.Frag) : Sp := fun vs H Q E => ∃ (i : ι) (F : Hp), Same F H ∧ P.rel K F vs i ∧
  Post (m i) (fun b => ∀ v F' H' S, Stp F H F' H' → (∀ p, S p → F' p = none ∧ H' p ≠ none ∧ H p = none) → O.rel K F' H' S v b → Q v H') (fun x => ∀ cls d F' H', Stp F H F' H' → ErrOk K F' x cls d → E cls d H')
/-- a def of the module: by its name, its level, what it promises -/
def Def (Pr : Program) (w : World) (K : PySem.W.Frag) (mg : Str → Option Value) (base : Heap) (k : Nat) (name : Str) (ps : List Str) (dvs : List V) (sp : Sp) : Prop :=
  ∃ (f : Addr) (fd : FuncData) (ds : List Value), FnOk Pr w K mg base (L2.CX Pr w) k f fd ps sp ∧ mg name = some (.ref f) ∧ PySem.W.keepIn K (.ref f) = true ∧ Binds K fd ps ds ∧ Vals dvs ds
abbrev DefX (X : Cx) (k : Nat) (name : Str) (ps : List Str) (dvs : List V) (sp : Sp) : Prop := Def X.prog X.w X.K X.mg X.base k name ps dvs sp
def CallC {ι β : Type} (P : Par ι) (m : ι → Out β) (dvs : List V) (K : PySem.W.Frag) (F _H : Hp) (vs : List V) (o : Out β) : Prop := ∃ i, o = m i ∧ P.rel K F (vs ++ dvs) i
section
variable {ι β : Type} {P : Par ι} {mf : ι → Out β} {T : Ty β} {O : Own β} {j : Nat} {name : Str} {ps : List Str} {dvs : List V} {e : Expr} {es : List Expr} {m : Out β} {p pos : Pos}
theorem err_up {K : PySem.W.Frag} {Γ : List Slot} {σ : L2.St} {F H F' H' : Hp} {ω : Ow} (en : EnvOk K B Γ σ F H ω) (s : Stp F H F' H') {x : Err} (h : RB K B E x) : ∀ cls d F2 H2, Stp F' H' F2 H2 → ErrOk K F2 x cls d → E cls d H2 :=
  fun cls d F2 H2 s2 e => h cls d F2 H2 (en.base.stp (s.trans s2)) e
theorem sps_of {K : PySem.W.Frag} {Γ : List Slot} {σ : L2.St} {F H F' H' : Hp} {ω : Ow} (en : EnvOk K B Γ σ F H ω) (s : Stp F H F' H') {vs : List V} {o : Out β} {Q : VK} (hc : CallC P mf dvs K F' H' vs o)
    (po : Post o (fun b => ∀ v F' H', Stp F H F' H' → T.rl.rel K F' H' v b → Q v H') (RB K B E)) : Sps P mf T K (vs ++ dvs) H' Q E := by
  obtain ⟨i, rfl, r⟩ := hc
  exact ⟨i, F', s.fh, r, po.mono (fun b q v F2 H2 s2 r2 => q v F2 H2 (s.trans s2) r2) fun x h => err_up en s h⟩
theorem spsO_of {K : PySem.W.Frag} {Γ : List Slot} {σ : L2.St} {F H F' H' : Hp} {ω : Ow} (en : EnvOk K B Γ σ F H ω) (s : Stp F H F' H') {vs : List V} {o : Out β} {Q : VK} (hc : CallC P mf dvs K F' H' vs o)
    (po : Post o (fun b => ∀ v F' H' S, Stp F H F' H' → (∀ p, S p → F' p = none ∧ H' p ≠ none ∧ H p = none) → O.rel K F' H' S v b → Q v H') (RB K B E)) : SpsO P mf O K (vs ++ dvs) H' Q E := by
  obtain ⟨i, rfl, r⟩ := hc
  exact ⟨i, F', s.fh, r, po.mono (fun b q v F2 H2 S s2 d r2 => q v F2 H2 S (s.trans s2) (new_of s d) r2) fun x h => err_up en s h⟩
theorem we_call (C : XC X N sc k E) (G : DefX X j name ps dvs (Sps P mf T X.K)) (hk : j ≤ k) (ha : WAc X E B Γ (e :: es) (CallC P mf dvs) m) (hg : GlN sc name := by rfl) (hdb : (name == ("__debug__" : Str)) = false := by decide)
    (he : starEach (e :: es) X.env = (false, eval e X.env) :: starEach es X.env := by rfl) (hpl : (backTo pos (starEach es X.env)).any (·.1) = false := by rfl) : WE X E B Γ (.Call (.Name name p) (e :: es) [] pos) T.rl m := fun σ F H ω Q en q => by
  obtain ⟨f, fd, ds, G, gm, kp, hb, hd⟩ := G
  exact ⟨_, pe_call G (C.room.mono hk) (gl_ C hg) gm kp hb hd C.pass pa_s hdb he hpl, ha σ F H ω _ _ en q fun vs F' H' o s hc po => sps_of en s hc po⟩
theorem wo_call (C : XC X N sc k E) (G : DefX X j name ps dvs (SpsO P mf O X.K)) (hk : j ≤ k) (ha : WAc X E B Γ (e :: es) (CallC P mf dvs) m) (hg : GlN sc name := by rfl) (hdb : (name == ("__debug__" : Str)) = false := by decide)
    (he : starEach (e :: es) X.env = (false, eval e X.env) :: starEach es X.env := by rfl) (hpl : (backTo pos (starEach es X.env)).any (·.1) = false := by rfl) : WO X E B Γ (.Call (.Name name p) (e :: es) [] pos) O m := fun σ F H ω Q en q => by
  obtain ⟨f, fd, ds, G, gm, kp, hb, hd⟩ := G
  exact ⟨_, pe_call G (C.room.mono hk) (gl_ C hg) gm kp hb hd C.pass pa_s hdb he hpl, ha σ F H ω _ _ en q fun vs F' H' o s hc po => spsO_of en s hc po⟩
theorem we_call0 (C : XC X N sc k E) (G : DefX X j name ps dvs (Sps P mf T X.K)) (hk : j ≤ k) (ha : ∀ K F H, Same F H → CallC P mf dvs K F H [] m) (hg : GlN sc name := by rfl) (hdb : (name == ("__debug__" : Str)) = false := by decide) :
    WE X E B Γ (.Call (.Name name p) [] [] pos) T.rl m := fun σ F H ω Q en q => by
  obtain ⟨f, fd, ds, G, gm, kp, hb, hd⟩ := G
  exact ⟨_, pe_call0 G (C.room.mono hk) (gl_ C hg) gm kp hb hd C.pass hdb, sps_of en (Stp.refl en.fh) (ha _ _ _ en.fh) q⟩
end

/-! ### a def by its body -/
theorem start_get {N : List Str} {vs : List V} (j : Nat) (h : j < vs.length) : (L2.start N vs)[j]?.join = vs[j]? := by
  unfold L2.start
  rw [List.getElem?_append_left (by simpa using h), List.getElem?_map]
  cases e : vs[j]? <;> rfl
theorem xc_def {Pr : Program} {w : World} {K : PySem.W.Frag} {mg : Str → Option Value} {base : Heap} {N : List Str} {qual : Str} {scope : Scope} {f : Addr} {cd : Value} {A : Around} {outer : List Env} {s : Shared} {H : Hp} {E : XK} {k : Nat} (nd : N.Nodup)
    (hr : Room k (A.deeper (envOfC qual scope s.heap.objs.size f cd))) : XC (cxOf (L2.CX Pr w) Pr w K mg base N qual scope f cd A outer s H E) N ⟨scope, scope⟩ k E :=
  ⟨rfl, nd, rfl, rfl, hr, passes_call (takes_of rfl rfl rfl rfl) fun _ _ _ _ h => h, passes_of rfl, fun _ h => ⟨h, .inl rfl⟩⟩
def anyS : Nat → List Slot
  | 0 => []
  | n + 1 => .any :: anyS n
theorem anyS_get : ∀ (n j : Nat) (s : Slot), (anyS n)[j]? = some s → s = .any
  | 0, j, s, h => by simp [anyS] at h
  | n + 1, 0, s, h => by simp [anyS] at h; exact h.symm
  | n + 1, j + 1, s, h => anyS_get n j s (by simpa [anyS] using h)
theorem anyS_len : ∀ n : Nat, (anyS n).length = n
  | 0 => rfl
  | n + 1 => by rw [anyS, List.length_cons, anyS_len n]
theorem env_start {K : PySem.W.Frag} {ι : Type} {P : Par ι} {i : ι} {N : List Str} {vs : List V} {F H : Hp} (hF : Same F H) (hr : P.rel K F vs i) (hN : P.n ≤ N.length) : EnvOk K ⟨F, H, fun _ => False⟩ (P.slots i ++ anyS (N.length - P.n)) (L2.start N vs) F H (fun _ => none) := by
  have hl := P.len hr
  refine ⟨SW.refl hF, ?_, (fun a i h => nomatch h), fun j s h => ?_⟩
  · unfold L2.start
    rw [List.length_append, List.length_append, List.length_map, List.length_replicate, P.slen, anyS_len, hl]
  · by_cases c : j < P.n
    · rw [List.getElem?_append_left (by rw [P.slen]; exact c)] at h
      have q := P.ok hr H (fun a => (none : Option Nat) = some j) j s h
      rw [start_get j (by rw [hl]; exact c)]
      exact q
    · rw [List.getElem?_append_right (by rw [P.slen]; omega)] at h
      rw [anyS_get _ _ _ h]
      trivial
section
variable {Pr : Program} {w : World} {K : PySem.W.Frag} {mg : Str → Option Value} {base : Heap} {x qual : Str} {params : Arguments} {body : List Stmt} {scope : Scope} {dvs : List V} {kws : List (Str × V)} {f : Addr} {fd : FuncData}
variable {ι β : Type} {P : Par ι} {m : ι → Out β} {T : Ty β} {O : Own β} {N ps : List Str} {k : Nat}
theorem rb_of {F H : Hp} {E : XK} {x : Err} (h : ∀ cls d F' H', Stp F H F' H' → ErrOk K F' x cls d → E cls d H') : RB K ⟨F, H, fun _ => False⟩ E x := fun cls d F' H' s e => h cls d F' H' (SW.pure s) e
theorem fn_body (F : FunD K x qual params body scope dvs kws f fd) (S : FnScope N ps scope) (hn : P.n = ps.length) (hN : P.n ≤ N.length)
    (h : ∀ (X : Cx) (E : XK) (B : Bs) (i : ι), X.prog = Pr → X.w = w → X.K = K → X.mg = mg → X.base = base → (∀ p, ¬ B.W p) → XC X N ⟨scope, scope⟩ k E → WS X E B (P.slots i ++ anyS (N.length - P.n)) [body] (m i) (fun b => .rt β T b)) :
    FnOk Pr w K mg base (L2.CX Pr w) (k + 1) f fd ps (Sps P m T K) := by
  refine F.ok S (fun vs H Q E ⟨i, F0, _, r, _⟩ => (P.len r).trans hn) fun cdv A outer s H vs Q E hr ⟨i, F0, hF, r, po⟩ => ?_
  have q := h (cxOf (L2.CX Pr w) Pr w K mg base N qual scope f cdv A outer s H E) E ⟨F0, H, fun _ => False⟩ i rfl rfl rfl rfl rfl (fun _ z => z) (xc_def S.nd hr) (L2.start N vs) F0 H (fun _ => none) { nx := fun _ H' => Q .non H', rt := Q } (env_start hF r hN)
    (po.mono (fun b q v F' H' s r => q v F' H' (SW.pure s) r) fun x q => rb_of q)
  obtain ⟨t, pt, ht⟩ := q
  exact ⟨t, pt, ht⟩
theorem fn_bodyO (F : FunD K x qual params body scope dvs kws f fd) (S : FnScope N ps scope) (hn : P.n = ps.length) (hN : P.n ≤ N.length)
    (h : ∀ (X : Cx) (E : XK) (B : Bs) (i : ι), X.prog = Pr → X.w = w → X.K = K → X.mg = mg → X.base = base → (∀ p, ¬ B.W p) → XC X N ⟨scope, scope⟩ k E → WS X E B (P.slots i ++ anyS (N.length - P.n)) [body] (m i) (fun b => .ro β O b)) :
    FnOk Pr w K mg base (L2.CX Pr w) (k + 1) f fd ps (SpsO P m O K) := by
  refine F.ok S (fun vs H Q E ⟨i, F0, _, r, _⟩ => (P.len r).trans hn) fun cdv A outer s H vs Q E hr ⟨i, F0, hF, r, po⟩ => ?_
  have q := h (cxOf (L2.CX Pr w) Pr w K mg base N qual scope f cdv A outer s H E) E ⟨F0, H, fun _ => False⟩ i rfl rfl rfl rfl rfl (fun _ z => z) (xc_def S.nd hr) (L2.start N vs) F0 H (fun _ => none) { nx := fun _ H' => Q .non H', rt := Q } (env_start hF r hN)
    (po.mono (fun b q v F' H' S s d r => q v F' H' S (SW.pure s) d r) fun x q => rb_of q)
  obtain ⟨t, pt, ht⟩ := q
  exact ⟨t, pt, ht⟩
end

/-! ### what is walked -/
/-- the walk J gives the things of xs, one a turn -/
structure TW (K : PySem.W.Frag) (J : It) (F0 : Hp) {α : Type} (T : Ty α) (xs : List α) : Prop where
  goes : ∀ i F H, i < xs.length → Same F0 F → Same F H → J.go i H
  stops : ∀ F H, Same F0 F → Same F H → J.stop xs.length H
  yields : ∀ i F H x H', i < xs.length → Same F0 F → Same F H → J.yld i H x H' → ∃ F' a, Stp F H F' H' ∧ xs[i]? = some a ∧ T.rel K F' x a
def WI (X : Cx) (E : XK) (B : Bs) (Γ : List Slot) (tg iter : Expr) {α : Type} (T : Ty α) (m : Out (List α)) : Prop :=
  ∀ σ F H ω (R : It → Hp → Prop), EnvOk X.K B Γ σ F H ω → Post m (fun xs => ∀ J F' H', Stp F H F' H' → TW X.K J F' T xs → xs.length ≤ sizeLine → R J H') (RB X.K B E) → sI X tg iter σ H R
section
variable {tg e e2 : Expr} {α β : Type} {T : Ty α} {U : Ty β} {m : Out (List α)} {m2 : Out (List β)} {mi mj : Out Int} {p pos : Pos}
theorem wi_lst (h : WE X E B Γ e (tLst T).rl m) : WI X E B Γ tg e T m := fun σ F H ω R en q => by
  refine ⟨_, pi_list (pe_lenQ pe_s), ?_⟩
  refine h σ F H ω _ en (q.imp fun xs q v F1 H1 s1 ⟨p, vs, e, sq, r⟩ hl => ⟨p, e, ⟨vs, SqL.of (s1.fh _ _ sq)⟩, q _ F1 H1 s1 ?_ ?_⟩)
  · exact ⟨fun i F H hi sf sh => ⟨vs, vs[i]'(by rw [r.len]; exact hi), SqL.of (sh _ _ (sf _ _ sq)), by simp⟩, fun F H sf sh => ⟨vs, SqL.of (sh _ _ (sf _ _ sq)), by rw [r.len]; exact Nat.le_refl _⟩, fun i F H x H' hi sf sh y => by
      obtain ⟨rfl, y⟩ := y
      obtain ⟨a, ha, ra⟩ := r.getV (y vs (SqL.of (sh _ _ (sf _ _ sq))))
      exact ⟨F, a, Stp.refl sh, ha, T.mono sf ra⟩⟩
  · rw [← r.len]
    exact hl p vs (.inl (.inl (s1.fh _ _ sq)))
theorem wi_lstQ (h : WE X E B Γ e (tLstQ T).rl m) : WI X E B Γ tg e T m := fun σ F H ω R en q => by
  refine ⟨_, pi_list (pe_lenQ pe_s), ?_⟩
  refine h σ F H ω _ en (q.imp fun xs q v F1 H1 s1 ⟨p, vs, e, sq, r⟩ hl => ⟨p, e, ⟨vs, s1.fh.seq sq⟩, q _ F1 H1 s1 ?_ ?_⟩)
  · exact ⟨fun i F H hi sf sh => ⟨vs, vs[i]'(by rw [r.len]; exact hi), sh.seq (sf.seq sq), by simp⟩, fun F H sf sh => ⟨vs, sh.seq (sf.seq sq), by rw [r.len]; exact Nat.le_refl _⟩, fun i F H x H' hi sf sh y => by
      obtain ⟨rfl, y⟩ := y
      obtain ⟨a, ha, ra⟩ := r.getV (y vs (sh.seq (sf.seq sq)))
      exact ⟨F, a, Stp.refl sh, ha, T.mono sf ra⟩⟩
  · rw [← r.len]
    exact sqL_len (s1.fh.seq sq) hl
theorem wi_tup (h : WE X E B Γ e (tTup T).rl m) : WI X E B Γ tg e T m := fun σ F H ω R en q => by
  refine ⟨_, pi_tup (pe_lenQ pe_s), ?_⟩
  refine h σ F H ω _ en (q.imp fun xs q v F1 H1 s1 ⟨p, vs, e, sq, r⟩ hl => ⟨p, e, ⟨vs, seqT s1.fh sq⟩, q _ F1 H1 s1 ?_ ?_⟩)
  · exact ⟨fun i F H hi sf sh => ⟨vs, vs[i]'(by rw [r.len]; exact hi), seqT sh (seqT sf sq), by simp⟩, fun F H sf sh => ⟨vs, seqT sh (seqT sf sq), by rw [r.len]; exact Nat.le_refl _⟩, fun i F H x H' hi sf sh y => by
      obtain ⟨rfl, y⟩ := y
      obtain ⟨a, ha, ra⟩ := r.getV (y vs (seqT sh (seqT sf sq)))
      exact ⟨F, a, Stp.refl sh, ha, T.mono sf ra⟩⟩
  · rw [← r.len]
    exact sqT_len (seqT s1.fh sq) hl
/-- 0, 1, .. -/
def upto (n : Nat) : List Int := (List.range n).map fun (i : Nat) => (i : Int)
def fromto (a b : Int) : List Int := (List.range (b - a).toNat).map fun (i : Nat) => a + (i : Int)
theorem tw_range {K : PySem.W.Frag} {F0 : Hp} (lo : Int) (n : Nat) : TW K (Itr lo n) F0 tInt ((List.range n).map fun (i : Nat) => lo + (i : Int)) := by
  refine ⟨fun i F H hi _ _ => (show i < n by simpa using hi), fun F H _ _ => by show n ≤ _; simp, fun i F H x H' hi sf sh y => ?_⟩
  obtain ⟨rfl, rfl⟩ := y
  have hi' : i < n := by simpa using hi
  exact ⟨F, lo + i, Stp.refl sh, by simp [hi'], rfl⟩
def rangeO (n : Int) : Out (List Int) := if -16777216 ≤ n ∧ n ≤ 16777216 then pure (upto n.toNat) else .stuck
def range2O (a b : Int) : Out (List Int) := if -16777216 ≤ a ∧ a ≤ 16777216 ∧ -16777216 ≤ b ∧ b ≤ 16777216 ∧ b - a ≤ 16777216 then pure (fromto a b) else .stuck
theorem upto_len (n : Nat) : (upto n).length = n := by simp [upto]
theorem fromto_len (a b : Int) : (fromto a b).length = (b - a).toNat := by simp [fromto]
theorem upto_eq (n : Nat) : upto n = (List.range n).map fun (i : Nat) => (0 : Int) + (i : Int) := by simp [upto]
theorem wi_range (C : XC X N sc k E) (Z : Fre X.mg) (h : WE X E B Γ e tInt.rl mi) (hg : GlN sc "range" := by rfl) (hs : starEach (e :: []) X.env = (false, eval e X.env) :: starEach [] X.env := by rfl) (hs2 : starEach [e] X.env = [(false, eval e X.env)] := by rfl) :
    WI X E B Γ tg (.Call (.Name "range" p) [e] [] pos) tInt (mi >>= rangeO) := fun σ F H ω R en q => by
  refine ⟨_, pi_range1 (gl_ C hg) Z.range (pa1 hs) hs2, ?_⟩
  refine h σ F H ω _ en (q.bind.imp fun n q v F1 H1 s1 r => ?_)
  unfold rangeO at q
  by_cases c : -16777216 ≤ n ∧ n ≤ 16777216
  · rw [if_pos c] at q
    exact ⟨n, by rw [show v = .int n from r], by omega, by omega, q _ F1 H1 s1 (by rw [upto_eq]; exact tw_range 0 n.toNat) (by rw [upto_len, sizeLine_eq]; omega)⟩
  · rw [if_neg c] at q
    exact q.elim
theorem wi_range2 (C : XC X N sc k E) (Z : Fre X.mg) (h : WE X E B Γ e tInt.rl mi) (h2 : WE X E B Γ e2 tInt.rl mj) (hg : GlN sc "range" := by rfl) (hs : starEach (e :: e2 :: []) X.env = (false, eval e X.env) :: starEach (e2 :: []) X.env := by rfl)
    (hs2 : starEach (e2 :: []) X.env = (false, eval e2 X.env) :: starEach [] X.env := by rfl) (hs3 : starEach [e, e2] X.env = [(false, eval e X.env), (false, eval e2 X.env)] := by rfl) (hs4 : starEach [e2] X.env = [(false, eval e2 X.env)] := by rfl) :
    WI X E B Γ tg (.Call (.Name "range" p) [e, e2] [] pos) tInt (mi >>= fun a => mj >>= fun b => range2O a b) := fun σ F H ω R en q => by
  refine ⟨_, pi_range2 (gl_ C hg) Z.range (pa2 hs hs2) hs3 hs4, ?_⟩
  refine h σ F H ω _ en (q.bind.imp fun a q v F1 H1 s1 r => ?_)
  refine h2 σ F1 H1 ω _ (en.stp s1) (q.bind.imp fun b q v2 F2 H2 s2 r2 => ?_)
  unfold range2O at q
  by_cases c : -16777216 ≤ a ∧ a ≤ 16777216 ∧ -16777216 ≤ b ∧ b ≤ 16777216 ∧ b - a ≤ 16777216
  · rw [if_pos c] at q
    exact ⟨a, b, by rw [show v = .int a from r, show v2 = .int b from r2], ⟨by omega, by omega, by omega, by omega⟩, q _ F2 H2 (s1.trans s2) (tw_range a _) (by rw [fromto_len, sizeLine_eq]; omega)⟩
  · rw [if_neg c] at q
    exact q.elim
/-- range(len(e)) of a list, of a tuple: no bound is asked -/
theorem wi_rlen (C : XC X N sc k E) (Z : Fre X.mg) {p2 pos2 : Pos} {R : Rl (List α)} (hR : ∀ K F H v (a : List α), Same F H → R.rel K F H v a → ∃ q vs, v = .ref q ∧ (SqL K H q vs ∨ SqT K H q vs) ∧ vs.length = a.length) (h : WE X E B Γ e R m) (hg : GlN sc "range" := by rfl) (hg2 : GlN sc "len" := by rfl)
    (he : starEach (e :: []) X.env = (false, eval e X.env) :: starEach [] X.env := by rfl) (hs : starEach (.Call (.Name "len" p2) [e] [] pos2 :: []) X.env = (false, eval (.Call (.Name "len" p2) [e] [] pos2) X.env) :: starEach [] X.env := by rfl)
    (hs2 : starEach [.Call (.Name "len" p2) [e] [] pos2] X.env = [(false, eval (.Call (.Name "len" p2) [e] [] pos2) X.env)] := by rfl) :
    WI X E B Γ tg (.Call (.Name "range" p) [.Call (.Name "len" p2) [e] [] pos2] [] pos) tInt (m >>= fun a => pure (upto a.length)) := fun σ F H ω W en q => by
  refine ⟨_, pi_range1 (gl_ C hg) Z.range (pa_cons (pe_callB call_len_seq (gl_ C hg2) Z.len boot_len (pa_cons (pe_lenQ pe_s) pa_nil he) (he := he)) pa_nil hs) hs2, ?_⟩
  refine h σ F H ω _ en (q.bind.imp fun a q v F1 H1 s1 r hl => ?_)
  obtain ⟨d, vs, e1, sq, l⟩ := hR _ F1 H1 v a s1.fh r
  have hz : a.length ≤ sizeLine := by
    rw [← l]
    rcases sq with sq | sq
    · exact sqL_len sq hl
    · exact sqT_len sq hl
  have hz2 : a.length ≤ 16777216 := by rw [← sizeLine_eq]; exact hz
  refine ⟨d, vs, by rw [e1], sq, ((a.length : Nat) : Int), by rw [l], by omega, by omega, q _ F1 H1 s1 ?_ (by rw [upto_len]; exact hz)⟩
  rw [upto_eq]
  exact tw_range 0 _
theorem rl_len {α : Type} {T : Ty α} : ∀ K F H v (a : List α), Same F H → (rLst T).rel K F H v a → ∃ q vs, v = .ref q ∧ (SqL K H q vs ∨ SqT K H q vs) ∧ vs.length = a.length := fun K F H v a s ⟨p, vs, e, q, r⟩ => ⟨p, vs, e, .inl q, r.len⟩
theorem tt_len {α : Type} {T : Ty α} : ∀ K F H v (a : List α), Same F H → (tTup T).rl.rel K F H v a → ∃ q vs, v = .ref q ∧ (SqL K H q vs ∨ SqT K H q vs) ∧ vs.length = a.length := fun K F H v a s ⟨p, vs, e, q, r⟩ => ⟨p, vs, e, .inr (seqT s q), r.len⟩
end

/-! ### targets -/
/-- what a target makes of the slots, for a thing a -/
def WG (X : Cx) (B : Bs) (tg : Expr) {α : Type} (T : Ty α) (ix : List Nat) (f : α → List Slot → List Slot) : Prop :=
  ∀ σ F H ω Γ v a (Q : L2.St → Hp → Prop), EnvOk X.K B Γ σ F H ω → T.rel X.K F v a → (∀ σ' ω', (∀ j, j ∉ ix → σ'[j]? = σ[j]?) → σ'.length = σ.length → (∀ p, ω p = none → ω' p = none) → EnvOk X.K B (f a Γ) σ' F H ω' → Q σ' H) → sG X tg v σ H Q
theorem slot_iff {K : PySem.W.Frag} {F H : Hp} {S S' : Addr → Prop} {o : Option V} {s : Slot} (h : s.ok K F H S o) (k : ∀ a, S' a ↔ S a) : s.ok K F H S' o := by
  have e : S' = S := funext fun a => propext (k a)
  rw [e]
  exact h
theorem env_set {K : PySem.W.Frag} {Γ : List Slot} {σ : L2.St} {F H : Hp} {ω : Ow} {i : Nat} {v : V} {s : Slot} (e : EnvOk K B Γ σ F H ω) (hs : ∀ S, s.ok K F H S (some v)) : EnvOk K B (Γ.set i s) (σ.set i (some v)) F H (fun a => if ω a = some i then none else ω a) := by
  refine ⟨e.base, by rw [List.length_set, List.length_set, e.len], fun a j h => ?_, fun j t h => ?_⟩
  · by_cases c : ω a = some i
    · rw [if_pos c] at h; cases h
    · rw [if_neg c] at h
      exact e.own a j h
  · by_cases c : i = j
    · subst c
      by_cases hi : i < Γ.length
      · rw [List.getElem?_set_self hi] at h
        cases h
        rw [List.getElem?_set_self (by rw [e.len]; exact hi)]
        exact hs _
      · rw [List.getElem?_eq_none (by rw [List.length_set]; omega)] at h
        cases h
    · rw [List.getElem?_set_ne c] at h
      rw [List.getElem?_set_ne c]
      refine slot_iff (e.slot j t h) fun a => ?_
      constructor
      · intro q
        by_cases c2 : ω a = some i
        · rw [if_pos c2] at q; cases q
        · rw [if_neg c2] at q; exact q
      · intro q
        rw [if_neg (by rw [q]; exact fun z => c (Option.some.inj z).symm)]
        exact q
theorem wg_name (C : XC X N sc k E) (i : Nat) {x : Str} {pos : Pos} {α : Type} {T : Ty α} (hN : N[i]? = some x := by rfl) (hl : L2.Loc sc.raw x := by first | exact Or.inl rfl | exact Or.inr rfl) : WG X B (.Name x pos) T [i] (fun a Γ => Γ.set i (iS T a)) :=
  fun σ F H ω Γ v a Q en r q => ⟨_, pg_name (by rw [C.nm]; exact C.nd) (by rw [C.nm]; exact hN) (C.loc _ hl).1 (C.loc _ hl).2, q _ _ (fun j hj => by rw [List.getElem?_set_ne (fun z => hj (by simp [z]))]) (by rw [List.length_set]) (fun p hp => by simp [hp]) (env_set en fun _ => ⟨v, rfl, r⟩)⟩
/-- a place that is never read -/
theorem wg_t2 (C : XC X N sc k E) {t1 t2 : Expr} {α β : Type} {T : Ty α} {U : Ty β} {f : α → List Slot → List Slot} {g : β → List Slot → List Slot} {j : Nat} {pos : Pos} {ix1 ix2 : List Nat} (h1 : WG X B t1 T ix1 f) (h2 : WG X B t2 U ix2 g)
    (hn : (assignEach [t1, t2] X.env).length = 2 := by rfl) (hst : (assignEach [t1, t2] X.env).findIdx? (·.1) = none := by rfl) (ha : (assignEach (t1 :: [t2]) X.env).map (·.2) = assign t1 X.env :: (assignEach [t2] X.env).map (·.2) := by rfl)
    (hb : (assignEach (t2 :: []) X.env).map (·.2) = assign t2 X.env :: (assignEach [] X.env).map (·.2) := by rfl) : WG X B (.Tuple [t1, t2] j pos) (tT2 T U) (ix1 ++ ix2) (fun a Γ => g a.2 (f a.1 Γ)) := fun σ F H ω Γ v a Q en r q => by
  obtain ⟨p, v1, v2, e, sq, r1, r2⟩ := r
  refine ⟨_, pg_tup C.calm (pgs_cons pg_s (pgs_cons pg_s pgs_nil hb) ha) hn hst, ?_⟩
  refine ⟨p, [v1, v2], e, seqT en.fh sq, rfl, v1, [v2], rfl, h1 σ F H ω Γ v1 a.1 _ en r1 fun σ1 ω1 k1 l1 o1 en1 => ?_⟩
  exact ⟨v2, [], rfl, h2 σ1 F H ω1 _ v2 a.2 _ en1 r2 fun σ2 ω2 k2 l2 o2 en2 => ⟨rfl, q σ2 ω2 (fun j hj => by
    simp only [List.mem_append, not_or] at hj
    rw [k2 j hj.2, k1 j hj.1]) (l2.trans l1) (fun p hp => o2 p (o1 p hp)) en2⟩⟩
theorem wg_t3 (C : XC X N sc k E) {t1 t2 t3 : Expr} {α β γ : Type} {T : Ty α} {U : Ty β} {W : Ty γ} {f : α → List Slot → List Slot} {g : β → List Slot → List Slot} {h : γ → List Slot → List Slot} {j : Nat} {pos : Pos} {ix1 ix2 ix3 : List Nat} (h1 : WG X B t1 T ix1 f) (h2 : WG X B t2 U ix2 g) (h3 : WG X B t3 W ix3 h)
    (hn : (assignEach [t1, t2, t3] X.env).length = 3 := by rfl) (hst : (assignEach [t1, t2, t3] X.env).findIdx? (·.1) = none := by rfl) (ha : (assignEach (t1 :: [t2, t3]) X.env).map (·.2) = assign t1 X.env :: (assignEach [t2, t3] X.env).map (·.2) := by rfl)
    (hb : (assignEach (t2 :: [t3]) X.env).map (·.2) = assign t2 X.env :: (assignEach [t3] X.env).map (·.2) := by rfl) (hc : (assignEach (t3 :: []) X.env).map (·.2) = assign t3 X.env :: (assignEach [] X.env).map (·.2) := by rfl) :
    WG X B (.Tuple [t1, t2, t3] j pos) (tT3 T U W) (ix1 ++ (ix2 ++ ix3)) (fun a Γ => h a.2.2 (g a.2.1 (f a.1 Γ))) := fun σ F H ω Γ v a Q en r q => by
  obtain ⟨p, v1, v2, v3, e, sq, r1, r2, r3⟩ := r
  refine ⟨_, pg_tup C.calm (pgs_cons pg_s (pgs_cons pg_s (pgs_cons pg_s pgs_nil hc) hb) ha) hn hst, ?_⟩
  refine ⟨p, [v1, v2, v3], e, seqT en.fh sq, rfl, v1, [v2, v3], rfl, h1 σ F H ω Γ v1 a.1 _ en r1 fun σ1 ω1 k1 l1 o1 en1 => ?_⟩
  exact ⟨v2, [v3], rfl, h2 σ1 F H ω1 _ v2 a.2.1 _ en1 r2 fun σ2 ω2 k2 l2 o2 en2 => ⟨v3, [], rfl, h3 σ2 F H ω2 _ v3 a.2.2 _ en2 r3 fun σ3 ω3 k3 l3 o3 en3 => ⟨rfl, q σ3 ω3 (fun j hj => by
    simp only [List.mem_append, not_or] at hj
    rw [k3 j hj.2.2, k2 j hj.2.1, k1 j hj.1]) ((l3.trans l2).trans l1) (fun p hp => o3 p (o2 p (o1 p hp))) en3⟩⟩⟩
end SL

set_option Elab.async false
set_option linter.all false
set_option maxRecDepth 100000
set_option maxHeartbeats 2000000
/-! SLe: statements, loops, comprehensions. -/
namespace SL
open PySem PySem.Spec PyProof.Rows L2
variable {X : Cx} {N : List Str} {sc : Scp} {k : Nat} {E : XK} {B : Bs} {Γ : List Slot}

/-! ### blocks -/
theorem sK_cons {s : Stmt} {b : List Stmt} {bs : List (List Stmt)} {D : Ends} {σ : L2.St} {H : Hp} (h : sS X s { D with nx := sK X (b :: bs) D } σ H) : sK X ((s :: b) :: bs) D σ H := by
  obtain ⟨t, p, h⟩ := h
  refine ⟨_, pss_cons p pss_s, ?_⟩
  exact h
theorem sK_nil {bs : List (List Stmt)} {D : Ends} {σ : L2.St} {H : Hp} (h : sK X bs D σ H) : sK X ([] :: bs) D σ H := ⟨_, pss_nil, h⟩
section
variable {β : Type} {D : β → SOut} {b : List Stmt} {bs : List (List Stmt)} {m : Out β}
/-- the next block -/
theorem ws_pop (h : WS X E B Γ bs m D) : WS X E B Γ ([] :: bs) m D := fun σ F H ω En en q => sK_nil (h σ F H ω En en q)
/-- fewer facts -/
inductive Weak : List Slot → List Slot → Prop where
  | nil : Weak [] []
  | same {s : Slot} {Γ Δ : List Slot} : Weak Γ Δ → Weak (s :: Γ) (s :: Δ)
  | any {s : Slot} {Γ Δ : List Slot} : Weak Γ Δ → Weak (s :: Γ) (.any :: Δ)
theorem Weak.len {Γ Δ : List Slot} (h : Weak Γ Δ) : Γ.length = Δ.length := by
  induction h with
  | nil => rfl
  | same _ ih => rw [List.length_cons, List.length_cons, ih]
  | any _ ih => rw [List.length_cons, List.length_cons, ih]
theorem Weak.at {Γ Δ : List Slot} (h : Weak Γ Δ) : ∀ (j : Nat) (s : Slot), Δ[j]? = some s → s = .any ∨ Γ[j]? = some s := by
  induction h with
  | nil => intro j s e; simp at e
  | same _ ih =>
    intro j s e
    cases j with
    | zero => exact .inr e
    | succ j => simpa using ih j s (by simpa using e)
  | any _ ih =>
    intro j s e
    cases j with
    | zero => simp at e; exact .inl e.symm
    | succ j => simpa using ih j s (by simpa using e)
theorem EnvOk.weak {K : PySem.W.Frag} {Γ Δ : List Slot} {σ : L2.St} {F H : Hp} {ω : Ow} (e : EnvOk K B Γ σ F H ω) (w : Weak Γ Δ) : EnvOk K B Δ σ F H ω :=
  ⟨e.base, e.len.trans w.len, e.own, fun j s h => by
    rcases w.at j s h with q | q
    · rw [q]; trivial
    · exact e.slot j s q⟩
/-- the end of the blocks -/
theorem ws_end {b : β} {Δ : List Slot} (hD : D b = .nx Δ) (w : Weak Γ Δ) : WS X E B Γ [] (pure b) D := fun σ F H ω En en q => by
  have q1 : EndOk X.K B F En (D b) := q
  rw [hD] at q1
  exact q1 σ F H ω (Same.refl F) (en.weak w)
theorem ws_weak {Δ : List Slot} (w : Weak Γ Δ) (h : WS X E B Δ bs m D) : WS X E B Γ bs m D := fun σ F H ω En en q => h σ F H ω En (en.weak w) q
theorem WS.cast {m' : Out β} (h : WS X E B Γ bs m D) (q : m = m') : WS X E B Γ bs m' D := q ▸ h
/-- a statement, then the rest; or out of here -/
def Exits : SOut → Prop
  | .nx _ => False
  | _ => True
theorem ws_cons {γ : Type} {s : Stmt} {m1 : Out γ} {D1 : γ → SOut} {f : γ → Out β} (h1 : W1 X E B Γ s m1 D1)
    (h2 : ∀ c, (∃ Δ, D1 c = .nx Δ ∧ WS X E B Δ (b :: bs) (f c) D) ∨ (Exits (D1 c) ∧ ∃ r, f c = pure r ∧ D r = D1 c)) : WS X E B Γ ((s :: b) :: bs) (m1 >>= f) D := fun σ F H ω En en q => by
  refine sK_cons (h1 σ F H ω { En with nx := sK X (b :: bs) En } en (q.bind.imp fun c q => ?_))
  rcases h2 c with ⟨Δ, e, h⟩ | ⟨x, r, e, e2⟩
  · rw [e]
    exact fun σ' F' H' ω' s en' => h σ' F' H' ω' En en' (q.imp fun b z => z.up s)
  · rw [e] at q
    have q1 : EndOk X.K B F En (D r) := q
    rw [e2] at q1
    cases h : D1 c with
    | nx Γ => rw [h] at x; exact x.elim
    | bk Γ => rw [h] at q1; exact q1
    | rt α T a => rw [h] at q1; exact q1
    | ro α O a => rw [h] at q1; exact q1
theorem ws_seq {γ : Type} {s : Stmt} {m1 : Out γ} {Δ : γ → List Slot} {f : γ → Out β} (h1 : W1 X E B Γ s m1 (fun c => .nx (Δ c))) (h2 : ∀ c, WS X E B (Δ c) (b :: bs) (f c) D) : WS X E B Γ ((s :: b) :: bs) (m1 >>= f) D :=
  ws_cons h1 fun c => .inl ⟨_, rfl, h2 c⟩
/-- .. that changes nothing that is known -/
theorem w1_end {s : Stmt} {Δ : List Slot} {b : β} (h : W1 X E B Γ s (pure ()) (fun _ => .nx Δ)) (hD : D b = .nx Δ) : W1 X E B Γ s (pure b) D := fun σ F H ω En en q => h σ F H ω En en (by
  have q1 : EndOk X.K B F En (D b) := q
  rw [hD] at q1
  exact q1)
/-- if -/
theorem ws_if {c : Expr} {A C : List Stmt} {mc : Out Bool} {m1 m2 : Out β} {pos : Pos} (hc : WT X E B Γ c mc) (h1 : WS X E B Γ (A :: b :: bs) m1 D) (h2 : WS X E B Γ (C :: b :: bs) m2 D) :
    WS X E B Γ ((.If c A C pos :: b) :: bs) (mc >>= fun t => if t = true then m1 else m2) D := fun σ F H ω En en q => by
  refine sK_cons ⟨_, ps_if pt_s pss_s pss_s, ?_⟩
  refine hc σ F H ω _ en (q.bind.imp fun t q F1 H1 s1 => ?_)
  cases t with
  | true => exact h1 σ F1 H1 ω En (en.stp s1) (Post.imp q fun b z => EndOk.up z s1.ff)
  | false => exact h2 σ F1 H1 ω En (en.stp s1) (Post.imp q fun b z => EndOk.up z s1.ff)
theorem w1_if {c : Expr} {A C : List Stmt} {mc : Out Bool} {m1 m2 : Out β} {pos : Pos} (hc : WT X E B Γ c mc) (h1 : WS X E B Γ [A] m1 D) (h2 : WS X E B Γ [C] m2 D) :
    W1 X E B Γ (.If c A C pos) (mc >>= fun t => if t = true then m1 else m2) D := fun σ F H ω En en q => by
  refine ⟨_, ps_if pt_s pss_s pss_s, ?_⟩
  refine hc σ F H ω _ en (q.bind.imp fun t q F1 H1 s1 => ?_)
  cases t with
  | true => exact h1 σ F1 H1 ω En (en.stp s1) (Post.imp q fun b z => EndOk.up z s1.ff)
  | false => exact h2 σ F1 H1 ω En (en.stp s1) (Post.imp q fun b z => EndOk.up z s1.ff)
theorem ws_pass {pos : Pos} (h : WS X E B Γ (b :: bs) m D) : WS X E B Γ ((.Pass pos :: b) :: bs) m D := fun σ F H ω En en q => sK_cons ⟨_, ps_pass, h σ F H ω En en q⟩
/-- what is never come to -/
theorem ws_stuck : WS X E B Γ bs (Out.stuck : Out β) D := fun σ F H ω En en q => q.elim
/-- return -/
theorem ws_ret {e : Expr} {α : Type} {T : Ty α} {me : Out α} {g : α → β} {pos : Pos} (h : WE X E B Γ e T.rl me) (hD : ∀ a, D (g a) = .rt α T a) : WS X E B Γ ((.Return (some e) pos :: b) :: bs) (me >>= fun a => pure (g a)) D := fun σ F H ω En en q => by
  refine sK_cons ⟨_, ps_ret pe_s, ?_⟩
  refine h σ F H ω _ en (q.bind.imp fun a q v F1 H1 s1 r => ?_)
  have q1 : EndOk X.K B F En (D (g a)) := q
  rw [hD] at q1
  exact q1 v F1 H1 (en.base.stp s1) r
theorem ws_retO {e : Expr} {α : Type} {O : Own α} {me : Out α} {g : α → β} {pos : Pos} (h : WO X E B Γ e O me) (hD : ∀ a, D (g a) = .ro α O a) : WS X E B Γ ((.Return (some e) pos :: b) :: bs) (me >>= fun a => pure (g a)) D := fun σ F H ω En en q => by
  refine sK_cons ⟨_, ps_ret pe_s, ?_⟩
  refine h σ F H ω _ en (q.bind.imp fun a q v F1 H1 S s1 d r => ?_)
  have q1 : EndOk X.K B F En (D (g a)) := q
  rw [hD] at q1
  exact q1 v F1 H1 S (en.base.stp s1) (fun p hp => ⟨(d p hp).1, (d p hp).2.1, by
    cases e : B.H p with
    | none => rfl
    | some o => exact absurd (d p hp).2.2 (en.base.there p (by rw [e]; exact fun z => nomatch z))⟩) r
/-- an own thing of a slot handed back -/
theorem ws_retV (C : XC X N sc k E) (i : Nat) {x : Str} {p pos : Pos} {α : Type} {O : Own α} {a : α} {r : β} (hW : ∀ p, ¬ B.W p) (hD : D r = .ro α O a) (hΓ : Γ[i]? = some (.on α O a) := by rfl) (hN : N[i]? = some x := by rfl) (hv : Vis sc.sc x := by first | exact Or.inl rfl | exact Or.inr (Or.inl rfl) | exact Or.inr (Or.inr rfl))
    (hd : (x == ("__debug__" : Str)) = false := by decide) (hcd : (x == ("__classdict__" : Str)) = false := by decide) : WS X E B Γ ((.Return (some (.Name x p)) pos :: b) :: bs) (pure r) D := fun σ F H ω En en q => by
  refine sK_cons ⟨_, ps_ret (pv_ C hN hv hd hcd), ?_⟩
  obtain ⟨v, hs, rl⟩ := en.slot i _ hΓ
  have q1 : EndOk X.K B F En (D r) := q
  rw [hD] at q1
  refine ⟨v, join_some hs, q1 v F H _ en.base (fun p hp => ?_) rl⟩
  obtain ⟨z1, z2, z3⟩ := en.own p i hp
  exact ⟨z1, z2, z3.resolve_right (hW p)⟩
end

/-! ### stores -/
theorem env_setO {K : PySem.W.Frag} {Γ : List Slot} {σ : L2.St} {F H : Hp} {ω : Ow} {i : Nat} {v : V} {α : Type} {O : Own α} {a : α} {S : Addr → Prop} (e : EnvOk K B Γ σ F H ω) (d : ∀ p, S p → F p = none ∧ H p ≠ none ∧ ω p = none ∧ B.H p = none) (r : O.rel K F H S v a) :
    ∃ ω', EnvOk K B (Γ.set i (.on α O a)) (σ.set i (some v)) F H ω' := by
  classical
  refine ⟨fun p => if S p then some i else if ω p = some i then none else ω p, e.base, by rw [List.length_set, List.length_set, e.len], fun p j h => ?_, fun j t h => ?_⟩
  · by_cases c : S p
    · obtain ⟨d1, d2, d3, d4⟩ := d p c
      exact ⟨d1, d2, .inl d4⟩
    · simp only [if_neg c] at h
      by_cases c2 : ω p = some i
      · simp only [if_pos c2] at h; cases h
      · simp only [if_neg c2] at h
        exact e.own p j h
  · by_cases c : i = j
    · subst c
      by_cases hi : i < Γ.length
      · rw [List.getElem?_set_self hi] at h
        cases h
        rw [List.getElem?_set_self (by rw [e.len]; exact hi)]
        have es : (fun p => (if S p then some i else if ω p = some i then none else ω p) = some i) = S := funext fun p => propext (by
          by_cases c : S p
          · simp [c]
          · simp only [if_neg c]
            by_cases c2 : ω p = some i
            · simp [c2, c]
            · simp [c2, c])
        rw [es]
        exact ⟨v, rfl, r⟩
      · rw [List.getElem?_eq_none (by rw [List.length_set]; omega)] at h
        cases h
    · rw [List.getElem?_set_ne c] at h
      rw [List.getElem?_set_ne c]
      refine slot_iff (e.slot j t h) fun p => ?_
      by_cases cS : S p
      · simp only [if_pos cS]
        obtain ⟨_, _, d3, _⟩ := d p cS
        rw [d3]
        exact ⟨fun z => absurd (Option.some.inj z) c, fun z => nomatch z⟩
      · simp only [if_neg cS]
        by_cases c2 : ω p = some i
        · simp only [if_pos c2]
          rw [c2]
          exact ⟨(fun z => nomatch z), fun z => absurd (Option.some.inj z) c⟩
        · simp only [if_neg c2]
theorem new_ok {K : PySem.W.Frag} {Γ : List Slot} {σ : L2.St} {F H F' H' : Hp} {ω : Ow} {S : Addr → Prop} (e : EnvOk K B Γ σ F H ω) (s : Stp F H F' H') (d : ∀ p, S p → F' p = none ∧ H' p ≠ none ∧ H p = none) : ∀ p, S p → F' p = none ∧ H' p ≠ none ∧ ω p = none ∧ B.H p = none := fun p hp => by
  obtain ⟨d1, d2, d3⟩ := d p hp
  refine ⟨d1, d2, ?_, ?_⟩
  · cases h : ω p with
    | none => rfl
    | some i => exact absurd d3 (e.own p i h).2.1
  · cases h : B.H p with
    | none => rfl
    | some o => exact absurd d3 (e.base.there p (by rw [h]; exact fun z => nomatch z))
section
variable {β : Type} {D : β → SOut} {b : List Stmt} {bs : List (List Stmt)} {x : Str} {p pos : Pos} {e : Expr} {α : Type}
/-- x = e -/
theorem ws_set (C : XC X N sc k E) (i : Nat) {T : Ty α} {me : Out α} {f : α → Out β} (h : WE X E B Γ e T.rl me) (hr : ∀ a, WS X E B (Γ.set i (iS T a)) (b :: bs) (f a) D) (hN : N[i]? = some x := by rfl) (hl : L2.Loc sc.raw x := by first | exact Or.inl rfl | exact Or.inr rfl)
    (hs : swapsWith e (some (.Name x p)) pos.line X.env = pure false := by rfl) : WS X E B Γ ((.Assign [.Name x p] e pos :: b) :: bs) (me >>= f) D := fun σ F H ω En en q => by
  refine sK_cons ⟨_, ps_set (by rw [C.nm]; exact C.nd) (by rw [C.nm]; exact hN) (C.loc _ hl).1 pe_s hs (C.loc _ hl).2, ?_⟩
  refine h σ F H ω _ en (q.bind.imp fun a q v F1 H1 s1 r => ?_)
  exact hr a _ F1 H1 _ En (env_set (en.stp s1) fun S => ⟨v, rfl, r⟩) (q.imp fun b z => EndOk.up z s1.ff)
theorem ws_setO (C : XC X N sc k E) (i : Nat) {O : Own α} {me : Out α} {f : α → Out β} (h : WO X E B Γ e O me) (hr : ∀ a, WS X E B (Γ.set i (.on α O a)) (b :: bs) (f a) D) (hN : N[i]? = some x := by rfl) (hl : L2.Loc sc.raw x := by first | exact Or.inl rfl | exact Or.inr rfl)
    (hs : swapsWith e (some (.Name x p)) pos.line X.env = pure false := by rfl) : WS X E B Γ ((.Assign [.Name x p] e pos :: b) :: bs) (me >>= f) D := fun σ F H ω En en q => by
  refine sK_cons ⟨_, ps_set (by rw [C.nm]; exact C.nd) (by rw [C.nm]; exact hN) (C.loc _ hl).1 pe_s hs (C.loc _ hl).2, ?_⟩
  refine h σ F H ω _ en (q.bind.imp fun a q v F1 H1 S s1 d r => ?_)
  obtain ⟨ω', en'⟩ := env_setO (i := i) (en.stp s1) (new_ok en s1 d) r
  exact hr a _ F1 H1 _ En en' (q.imp fun b z => EndOk.up z s1.ff)
/-- a, b = e; (a, b), c = e -/
theorem ws_asg (C : XC X N sc k E) {tg : Expr} {T : Ty α} {g : α → List Slot → List Slot} {me : Out α} {f : α → Out β} (h : WE X E B Γ e T.rl me) {ix : List Nat} (hg : WG X B tg T ix g) (hr : ∀ a, WS X E B (g a Γ) (b :: bs) (f a) D)
    (hs : swapsWithSole [tg] e pos.line X.env = pure false := by rfl) (hw : swappedStores [tg] e X.env = pure none := by rfl) (h1 : (assignEach [tg] X.env).map (·.2) = [assign tg X.env] := by rfl) : WS X E B Γ ((.Assign [tg] e pos :: b) :: bs) (me >>= f) D := fun σ F H ω En en q => by
  refine sK_cons ⟨_, ps_asg pe_s pg_s hs hw h1, ?_⟩
  refine h σ F H ω _ en (q.bind.imp fun a q v F1 H1 s1 r => ?_)
  exact hg σ F1 H1 ω Γ v a _ (en.stp s1) r fun σ' ω' _ _ _ en' => hr a σ' F1 H1 ω' En en' (q.imp fun b z => EndOk.up z s1.ff)
/-- an own thing becomes fixed -/
theorem env_fz {K : PySem.W.Frag} {Γ : List Slot} {σ : L2.St} {F H : Hp} {ω : Ow} {i : Nat} {O : Own α} {T : Ty α} {a : α} (z : Fz O T) (hW : ∀ p, ¬ B.W p) (e : EnvOk K B Γ σ F H ω) (h : Γ[i]? = some (.on α O a)) :
    EnvOk K B (Γ.set i (iS T a)) σ (frz F H (fun p => ω p = some i)) H (fun p => if ω p = some i then none else ω p) ∧ Same F (frz F H (fun p => ω p = some i)) := by
  have dj : ∀ p, ω p = some i → F p = none := fun p hp => (e.own p i hp).1
  have sm := frz_same (H := H) dj
  refine ⟨⟨⟨e.base.ff.trans sm, frz_sub e.base.fh, e.base.hh, e.base.there, fun p h1 h2 => ?_⟩, by rw [List.length_set, e.len], fun p j hj => ?_, fun j t hj => ?_⟩, sm⟩
  · by_cases c : ω p = some i
    · have z3 := (e.own p i c).2.2.resolve_right (hW p)
      exact absurd z3 h2
    · rw [frz_out c]
      exact e.base.old p h1 h2
  · by_cases c : ω p = some i
    · rw [if_pos c] at hj; cases hj
    · rw [if_neg c] at hj
      obtain ⟨z1, z2, z3⟩ := e.own p j hj
      exact ⟨by rw [frz_out c]; exact z1, z2, z3⟩
  · by_cases c : i = j
    · subst c
      have hi : i < Γ.length := (List.getElem?_eq_some_iff.mp h).1
      rw [List.getElem?_set_self hi] at hj
      cases hj
      obtain ⟨v, hv, r⟩ := e.slot i _ h
      exact ⟨v, hv, z K F H _ v a dj r⟩
    · rw [List.getElem?_set_ne c] at hj
      refine slot_iff (Slot.keep (e.slot j t hj) sm fun p _ => rfl) fun p => ?_
      by_cases c2 : ω p = some i
      · simp only [if_pos c2]
        rw [c2]
        exact ⟨(fun z => nomatch z), fun z => absurd (Option.some.inj z) c⟩
      · simp only [if_neg c2]
theorem ws_fz (i : Nat) {O : Own α} {T : Ty α} {a : α} {m : Out β} (z : Fz O T) (hW : ∀ p, ¬ B.W p) (hΓ : Γ[i]? = some (.on α O a)) (h : WS X E B (Γ.set i (iS T a)) bs m D) : WS X E B Γ bs m D := fun σ F H ω En en q => by
  obtain ⟨e1, e2⟩ := env_fz z hW en hΓ
  exact h σ _ H _ En e1 (q.imp fun b z => EndOk.up z e2)
end
end SL

set_option Elab.async false
set_option linter.all false
set_option maxRecDepth 100000
set_option maxHeartbeats 2000000
/-! SLf: own lists changed; loops; comprehensions. -/
namespace SL
open PySem PySem.Spec PyProof.Rows L2
variable {X : Cx} {N : List Str} {sc : Scp} {k : Nat} {E : XK} {B : Bs} {Γ : List Slot}

/-! ### own lists changed -/
/-- the object at p of the own thing in slot i is written -/
theorem env_wr {K : PySem.W.Frag} {Γ : List Slot} {σ : L2.St} {F H : Hp} {ω : Ow} {i : Nat} {α β : Type} {O : Own α} {O' : Own β} {a : α} {a' : β} {p : Addr} {o : HO} {v : V} (e : EnvOk K B Γ σ F H ω) (h : Γ[i]? = some (.on α O a)) (hv : σ[i]? = some (some v)) (hp : ω p = some i)
    (r : O'.rel K F (upd H p o) (fun q => ω q = some i) v a') : EnvOk K B (Γ.set i (.on β O' a')) σ F (upd H p o) ω := by
  obtain ⟨z1, z2, z3⟩ := e.own p i hp
  refine ⟨⟨e.base.ff, fun q u hq => ?_, fun q u hq hw => ?_, fun q hq => ?_, e.base.old⟩, by rw [List.length_set, e.len], fun q j hj => ?_, fun j t hj => ?_⟩
  · rw [upd_ne (fun z => by rw [z, z1] at hq; cases hq)]
    exact e.base.fh q u hq
  · have ne : q ≠ p := fun z => by
      subst z
      rcases z3 with z3 | z3
      · rw [z3] at hq; cases hq
      · exact hw z3
    rw [upd_ne ne]
    exact e.base.hh q u hq hw
  · by_cases c : q = p
    · subst c
      rw [upd_same]
      exact fun z => nomatch z
    · rw [upd_ne c]
      exact e.base.there q hq
  · obtain ⟨y1, y2, y3⟩ := e.own q j hj
    refine ⟨y1, ?_, y3⟩
    by_cases c : q = p
    · subst c
      rw [upd_same]
      exact fun z => nomatch z
    · rw [upd_ne c]
      exact y2
  · by_cases c : i = j
    · subst c
      have hi : i < Γ.length := (List.getElem?_eq_some_iff.mp h).1
      rw [List.getElem?_set_self hi] at hj
      cases hj
      exact ⟨v, by rw [hv] <;> rfl, r⟩
    · rw [List.getElem?_set_ne c] at hj
      refine Slot.keep (e.slot j t hj) (Same.refl F) fun q hq => ?_
      exact upd_ne fun z => by
        rw [z, hp] at hq
        exact c (Option.some.inj hq)
/-- the own list in slot i as it stands -/
theorem own_lst {K : PySem.W.Frag} {Γ : List Slot} {σ : L2.St} {F H : Hp} {ω : Ow} {i : Nat} {α : Type} {T : Ty α} {a : List α} (e : EnvOk K B Γ σ F H ω) (h : Γ[i]? = some (.on _ (oLst T) a)) :
    ∃ p vs, σ[i]? = some (some (.ref p)) ∧ ω p = some i ∧ H p = some (.lst vs) ∧ Fa2 (T.rel K F) vs a := by
  obtain ⟨v, hv, p, vs, rfl, hp, hH, r⟩ := e.slot i _ h
  exact ⟨p, vs, join_some hv, hp, hH, r⟩
theorem env_lst {K : PySem.W.Frag} {Γ : List Slot} {σ : L2.St} {F H : Hp} {ω : Ow} {i : Nat} {α : Type} {T : Ty α} {a a' : List α} {p : Addr} {vs' : List V} (e : EnvOk K B Γ σ F H ω) (h : Γ[i]? = some (.on _ (oLst T) a)) (hv : σ[i]? = some (some (.ref p))) (hp : ω p = some i)
    (r : Fa2 (T.rel K F) vs' a') : EnvOk K B (Γ.set i (.on _ (oLst T) a')) σ F (upd H p (.lst vs')) ω := env_wr e h hv hp ⟨p, vs', rfl, hp, upd_same, r⟩
def appO {α : Type} (xs : List α) (x : α) : Out (List α) := if xs.length < 16777216 then pure (xs ++ [x]) else .stuck
/-- the place that an index means, of n -/
def ixO (n : Nat) (i : Int) : Out Nat := match ixN n i with
  | some j => pure j
  | none => .stuck
def setO {α : Type} (xs : List α) (i : Int) (x : α) : Out (List α) := ixO xs.length i >>= fun j => pure (xs.set j x)
section
variable {β : Type} {D : β → SOut} {b : List Stmt} {bs : List (List Stmt)} {x : Str} {p p2 p3 pos : Pos} {e e2 : Expr} {α : Type} {T : Ty α} {xs : List α} {me : Out α} {mi : Out Int} {f : List α → Out β}
/-- x.append(e) -/
theorem ws_app (C : XC X N sc k E) (i : Nat) (h : WE X E B Γ e T.rl me) (hr : ∀ a, WS X E B (Γ.set i (.on _ (oLst T) a)) (b :: bs) (f a) D) (hΓ : Γ[i]? = some (.on _ (oLst T) xs) := by rfl) (hN : N[i]? = some x := by rfl) (hv : Vis sc.sc x := by first | exact Or.inl rfl | exact Or.inr (Or.inl rfl) | exact Or.inr (Or.inr rfl))
    (hd : (x == ("__debug__" : Str)) = false := by decide) (hcd : (x == ("__classdict__" : Str)) = false := by decide) (hbase : attributeBase (.Name x p) "append" X.env (eval (.Name x p) X.env) = eval (.Name x p) X.env := by rfl)
    (hfew : ((backTo p3 (starEach (e :: []) X.env)).all (fun x => !x.1) && (backToKw p3 (keywordEach [] X.env)).all (fun x => x.1.isSome) && decide ((e :: []).length + ([] : List Keyword).length + (if ([] : List Keyword).isEmpty then 0 else 1) < 30)) = true := by rfl)
    (hline : (p2.endLine == p3.line) = true := by rfl) (hs : starEach (e :: []) X.env = (false, eval e X.env) :: starEach [] X.env := by rfl) (hsw : swapsWith (.Call (.Attribute (.Name x p) "append" p2) [e] [] p3) none pos.line X.env = pure false := by rfl) :
    WS X E B Γ ((.Expr (.Call (.Attribute (.Name x p) "append" p2) [e] [] p3) pos :: b) :: bs) (me >>= fun a => appO xs a >>= f) D := fun σ F H ω En en q => by
  refine sK_cons ⟨_, ps_expr (pe_bm PySem.F.plainAttrs_list PySem.F.slot_list_append PySem.F.type_list_append mt_append (pv_ C hN hv hd hcd) (pa_cons pe_s pa_nil hs) hbase hfew hline hs) hsw, ?_⟩
  obtain ⟨l, vs, hσ, hl, hH, r⟩ := own_lst en hΓ
  refine ⟨_, hσ, .inl ⟨rfl, _, SqL.of hH⟩, h σ F H ω _ en (q.bind.imp fun a q v F1 H1 s1 ra => ?_)⟩
  unfold appO at q
  by_cases c : xs.length < 16777216
  · rw [if_pos c] at q
    have en1 := en.stp s1
    have r1 : Fa2 (T.rel X.K F1) vs xs := r.imp fun _ _ => T.mono s1.ff
    refine ⟨l, vs, v, rfl, rfl, s1.hh _ _ hH, by rw [r.len, sizeLine_eq]; exact c, ?_⟩
    exact hr _ σ F1 _ ω En (env_lst en1 hΓ hσ hl (r1.app (.cons ra .nil))) (Post.imp q fun b z => EndOk.up z s1.ff)
  · rw [if_neg c] at q
    exact q.elim
/-- x[i] = e -/
theorem ws_setI (C : XC X N sc k E) (i : Nat) {ei : Expr} (h : WE X E B Γ e T.rl me) (hi : WE X E B Γ ei tInt.rl mi) (hr : ∀ a, WS X E B (Γ.set i (.on _ (oLst T) a)) (b :: bs) (f a) D) (hΓ : Γ[i]? = some (.on _ (oLst T) xs) := by rfl) (hN : N[i]? = some x := by rfl)
    (hv : Vis sc.sc x := by first | exact Or.inl rfl | exact Or.inr (Or.inl rfl) | exact Or.inr (Or.inr rfl)) (hd : (x == ("__debug__" : Str)) = false := by decide) (hcd : (x == ("__classdict__" : Str)) = false := by decide)
    (ha : ∀ v, assign (.Subscript (.Name x p) ei p2) X.env v = (do
      let ov ← holding [v] (eval (.Name x p) X.env)
      let iv ← holding [v, ov] (eval ei X.env)
      standAt p2
      holding [v, ov, iv] (setItem ov iv v)
      release [v, ov, iv] []) := by intro _; rfl)
    (hs : swapsWithSole [.Subscript (.Name x p) ei p2] e pos.line X.env = pure false := by rfl) (hw : swappedStores [.Subscript (.Name x p) ei p2] e X.env = pure none := by rfl) (h1 : (assignEach [.Subscript (.Name x p) ei p2] X.env).map (·.2) = [assign (.Subscript (.Name x p) ei p2) X.env] := by rfl) :
    WS X E B Γ ((.Assign [.Subscript (.Name x p) ei p2] e pos :: b) :: bs) (me >>= fun a => mi >>= fun j => setO xs j a >>= f) D := fun σ F H ω En en q => by
  refine sK_cons ⟨_, ps_asg pe_s (pg_sub (pv_ C hN hv hd hcd) pe_s set_list ha) hs hw h1, ?_⟩
  refine h σ F H ω _ en (q.bind.imp fun a q v F1 H1 s1 ra => ?_)
  have en1 := en.stp s1
  obtain ⟨l, vs, hσ, hl, hH, r⟩ := own_lst en1 hΓ
  refine ⟨_, hσ, hi σ F1 H1 ω _ en1 (q.bind.imp fun j q v2 F2 H2 s2 rj => ?_)⟩
  have en2 := en1.stp s2
  have r2 : Fa2 (T.rel X.K F2) vs xs := r.imp fun _ _ => T.mono s2.ff
  unfold setO ixO at q
  cases hj : ixN xs.length j with
  | none => rw [hj] at q; exact q.elim
  | some n =>
    rw [hj] at q
    refine ⟨l, vs, j, n, rfl, rj, s2.hh _ _ hH, by rw [r.len]; exact hj, ?_⟩
    exact hr _ σ F2 _ ω En (env_lst en2 hΓ hσ hl (r2.set (T.mono s2.ff ra) n)) (Post.imp q fun b z => EndOk.up z (s1.ff.trans s2.ff))
end

/-! ### for -/
section
variable {tg iter : Expr} {body : List Stmt} {pos : Pos} {α β ρ S : Type} {T : Ty α} {mi : Out (List α)} {g : α → List Slot → List Slot}
theorem for_core (C : XC X N sc k E) (hit : WI X E B Γ tg iter T mi) {σ : L2.St} {F H : Hp} {ω : Ow} {En : Ends} (en : EnvOk X.K B Γ σ F H ω) (Iv : List α → L2.St → Hp → Hp → Prop)
    (hw : Post mi (fun xs => ∀ F1 H1, Stp F H F1 H1 → Iv xs σ F1 H1) (RB X.K B E)) (hF : ∀ xs σ F H, Iv xs σ F H → Same F H) (hd : ∀ σ F H, Iv [] σ F H → En.nx σ H)
    (hs : ∀ a rest σ F H x F' H', Iv (a :: rest) σ F H → Stp F H F' H' → T.rel X.K F' x a → ∀ Nx : L2.St → Hp → Prop, (∀ σ3 F3 H3, Same F' F3 → Iv rest σ3 F3 H3 → Nx σ3 H3) → sG X tg x σ H' fun σ2 H2 => sSs X body { En with nx := Nx, ct := Nx, bk := En.nx } σ2 H2)
    (hf : ∀ x, foldedSetIterable iter X.env x = pure x) : sS X (.For tg iter body [] pos) En σ H := by
  refine ⟨_, ps_for C.own C.calm pi_s pg_s pss_s hf, ?_⟩
  refine hit σ F H ω _ en (hw.imp fun xs q J F1 H1 s1 tw hl => ?_)
  refine ⟨fun i m σ' H' => m = xs.length - i ∧ i ≤ xs.length ∧ ∃ F', Same F1 F' ∧ Iv (xs.drop i) σ' F' H', ⟨xs.length, by simp, Nat.zero_le _, F1, Same.refl F1, by rw [List.drop_zero]; exact q F1 H1 s1⟩, ?_⟩
  rintro i m σ' H' ⟨rfl, hi, F', sf, iv⟩
  by_cases hlt : i < xs.length
  · have ed : xs.drop i = xs[i] :: xs.drop (i + 1) := by rw [List.drop_eq_getElem_cons hlt]
    rw [ed] at iv
    have fh := hF _ _ _ _ iv
    refine .inr ⟨tw.goes i F' H' hlt sf fh, fun σ3 H3 => ∃ F3, Same F1 F3 ∧ Iv (xs.drop (i + 1)) σ3 F3 H3, fun σ3 H3 ⟨F3, s3, v3⟩ => ⟨xs.length - (i + 1), by omega, rfl, hlt, F3, s3, v3⟩, fun x H2 y => ?_⟩
    obtain ⟨F2, a, s2, ea, ra⟩ := tw.yields i F' H' x H2 hlt sf fh y
    have ea2 : xs[i] = a := by
      rw [List.getElem?_eq_getElem hlt] at ea
      exact Option.some.inj ea
    rw [ea2] at iv
    exact hs a _ σ' F' H' x F2 H2 iv s2 ra _ fun σ3 F3 H3 s3 v3 => ⟨F3, (sf.trans s2.ff).trans s3, v3⟩
  · have e : i = xs.length := by omega
    subst e
    rw [List.drop_length] at iv
    exact .inl ⟨tw.stops F' H' sf (hF _ _ _ _ iv), hd _ _ _ iv⟩
/-- no way out of the loop -/
def forO {α S : Type} (f : S → α → Out S) : List α → S → Out S
  | [], s => pure s
  | x :: xs, s => f s x >>= fun s' => forO f xs s'
theorem w1_for (C : XC X N sc k E) (hit : WI X E B Γ tg iter T mi) {ix : List Nat} (hg : WG X B tg T ix g) {Δ : S → List Slot} {s0 : S} {f : S → α → Out S} (w0 : Weak Γ (Δ s0)) (hb : ∀ s a, WS X E B (g a (Δ s)) [body] (f s a) (fun s' => .nx (Δ s')))
    (hf : ∀ x, foldedSetIterable iter X.env x = pure x := by intro _; rfl) : W1 X E B Γ (.For tg iter body [] pos) (mi >>= fun xs => forO f xs s0) (fun s => .nx (Δ s)) := fun σ F H ω En en q => by
  refine for_core C hit en (fun xs σ' F' H' => Same F F' ∧ ∃ s ω', EnvOk X.K B (Δ s) σ' F' H' ω' ∧ Post (forO f xs s) (fun s => EndOk X.K B F En (.nx (Δ s))) (RB X.K B E))
    (q.bind.imp fun xs q F1 H1 s1 => ⟨s1.ff, s0, ω, (en.stp s1).weak w0, q⟩) (fun xs σ' F' H' ⟨_, s, ω', en', _⟩ => en'.fh) (fun σ' F' H' ⟨sf, s, ω', en', q⟩ => ?_) (fun a rest σ' F' H' x F2 H2 ⟨sf, s, ω', en', q⟩ s2 ra Nx hN => ?_) hf
  · have q1 : EndOk X.K B F En (.nx (Δ s)) := q
    exact q1 σ' F' H' ω' sf en'
  · refine hg σ' F2 H2 ω' (Δ s) x a _ (en'.stp s2) ra fun σ3 ω3 _ _ _ en3 => ?_
    have h := hb s a σ3 F2 H2 ω3 { En with nx := Nx, ct := Nx, bk := En.nx } en3 (Post.imp (Post.bind q) fun s' q σ4 F4 H4 ω4 s4 en4 => hN σ4 F4 H4 s4 ⟨(sf.trans s2.ff).trans s4, s', ω4, en4, q⟩)
    exact h
/-- with a return within -/
inductive Step (ρ S : Type) where
  | nx (s : S)
  | rt (r : ρ)
def forR {α S ρ : Type} (f : S → α → Out (Step ρ S)) : List α → S → Out (Step ρ S)
  | [], s => pure (.nx s)
  | x :: xs, s => f s x >>= fun t => match t with
    | .nx s' => forR f xs s'
    | .rt r => pure (.rt r)
/-- the ends of a loop's turn that may return -/
def DR {ρ S : Type} (Δ : S → List Slot) (Rt : ρ → SOut) : Step ρ S → SOut
  | .nx s => .nx (Δ s)
  | .rt r => Rt r
theorem w1_forR (C : XC X N sc k E) (hit : WI X E B Γ tg iter T mi) {ix : List Nat} (hg : WG X B tg T ix g) {Δ : S → List Slot} {s0 : S} {f : S → α → Out (Step ρ S)} {Rt : ρ → SOut} (w0 : Weak Γ (Δ s0)) (hb : ∀ s a, WS X E B (g a (Δ s)) [body] (f s a) (DR Δ Rt))
    (hR : ∀ r, (∃ α T a, Rt r = .rt α T a) ∨ (∃ α O a, Rt r = .ro α O a)) (hf : ∀ x, foldedSetIterable iter X.env x = pure x := by intro _; rfl) : W1 X E B Γ (.For tg iter body [] pos) (mi >>= fun xs => forR f xs s0) (DR Δ Rt) := fun σ F H ω En en q => by
  refine for_core C hit en (fun xs σ' F' H' => Same F F' ∧ ∃ s ω', EnvOk X.K B (Δ s) σ' F' H' ω' ∧ Post (forR f xs s) (fun t => EndOk X.K B F En (DR Δ Rt t)) (RB X.K B E))
    (q.bind.imp fun xs q F1 H1 s1 => ⟨s1.ff, s0, ω, (en.stp s1).weak w0, q⟩) (fun xs σ' F' H' ⟨_, s, ω', en', _⟩ => en'.fh) (fun σ' F' H' ⟨sf, s, ω', en', q⟩ => ?_) (fun a rest σ' F' H' x F2 H2 ⟨sf, s, ω', en', q⟩ s2 ra Nx hN => ?_) hf
  · have q1 : EndOk X.K B F En (.nx (Δ s)) := q
    exact q1 σ' F' H' ω' sf en'
  · refine hg σ' F2 H2 ω' (Δ s) x a _ (en'.stp s2) ra fun σ3 ω3 _ _ _ en3 => ?_
    have h := hb s a σ3 F2 H2 ω3 { En with nx := Nx, ct := Nx, bk := En.nx } en3 (Post.imp (Post.bind q) fun t q => ?_)
    · exact h
    · cases t with
      | nx s' => exact fun σ4 F4 H4 ω4 s4 en4 => hN σ4 F4 H4 s4 ⟨(sf.trans s2.ff).trans s4, s', ω4, en4, q⟩
      | rt r =>
        have q1 : EndOk X.K B F En (Rt r) := q
        show EndOk X.K B F2 _ (Rt r)
        rcases hR r with ⟨α, T, a, e⟩ | ⟨α, O, a, e⟩
        · rw [e] at q1 ⊢
          exact q1
        · rw [e] at q1 ⊢
          exact q1
/-- with a break within -/
inductive Brk (S : Type) where
  | go (s : S)
  | out (s : S)
def forB {α S : Type} (f : S → α → Out (Brk S)) : List α → S → Out S
  | [], s => pure s
  | x :: xs, s => f s x >>= fun t => match t with
    | .go s' => forB f xs s'
    | .out s' => pure s'
def DB {S : Type} (Δ : S → List Slot) : Brk S → SOut
  | .go s => .nx (Δ s)
  | .out s => .bk (Δ s)
theorem w1_forB (C : XC X N sc k E) (hit : WI X E B Γ tg iter T mi) {ix : List Nat} (hg : WG X B tg T ix g) {Δ : S → List Slot} {s0 : S} {f : S → α → Out (Brk S)} (w0 : Weak Γ (Δ s0)) (hb : ∀ s a, WS X E B (g a (Δ s)) [body] (f s a) (DB Δ))
    (hf : ∀ x, foldedSetIterable iter X.env x = pure x := by intro _; rfl) : W1 X E B Γ (.For tg iter body [] pos) (mi >>= fun xs => forB f xs s0) (fun s => .nx (Δ s)) := fun σ F H ω En en q => by
  refine for_core C hit en (fun xs σ' F' H' => Same F F' ∧ ∃ s ω', EnvOk X.K B (Δ s) σ' F' H' ω' ∧ Post (forB f xs s) (fun s => EndOk X.K B F En (.nx (Δ s))) (RB X.K B E))
    (q.bind.imp fun xs q F1 H1 s1 => ⟨s1.ff, s0, ω, (en.stp s1).weak w0, q⟩) (fun xs σ' F' H' ⟨_, s, ω', en', _⟩ => en'.fh) (fun σ' F' H' ⟨sf, s, ω', en', q⟩ => ?_) (fun a rest σ' F' H' x F2 H2 ⟨sf, s, ω', en', q⟩ s2 ra Nx hN => ?_) hf
  · have q1 : EndOk X.K B F En (.nx (Δ s)) := q
    exact q1 σ' F' H' ω' sf en'
  · refine hg σ' F2 H2 ω' (Δ s) x a _ (en'.stp s2) ra fun σ3 ω3 _ _ _ en3 => ?_
    have h := hb s a σ3 F2 H2 ω3 { En with nx := Nx, ct := Nx, bk := En.nx } en3 (Post.imp (Post.bind q) fun t q => ?_)
    · exact h
    · cases t with
      | go s' => exact fun σ4 F4 H4 ω4 s4 en4 => hN σ4 F4 H4 s4 ⟨(sf.trans s2.ff).trans s4, s', ω4, en4, q⟩
      | out s' =>
        have q1 : EndOk X.K B F En (.nx (Δ s')) := q
        exact fun σ4 F4 H4 ω4 s4 en4 => q1 σ4 F4 H4 ω4 ((sf.trans s2.ff).trans s4) en4
theorem ws_break {S' : Type} {D : S' → SOut} {b : List Stmt} {bs : List (List Stmt)} {pos : Pos} {r : S'} {Δ : List Slot} (hD : D r = .bk Δ) (w : Weak Γ Δ) : WS X E B Γ ((.Break pos :: b) :: bs) (pure r) D := fun σ F H ω En en q => by
  refine sK_cons ⟨_, ps_break, ?_⟩
  have q1 : EndOk X.K B F En (D r) := q
  rw [hD] at q1
  exact q1 σ F H ω (Same.refl F) (en.weak w)
end

/-! ### while -/
section
variable {c : Expr} {body : List Stmt} {pos : Pos} {S ρ : Type}
def whileO {S : Type} (c : S → Out Bool) (f : S → Out S) : Nat → S → Out S
  | 0, _ => .stuck
  | n + 1, s => c s >>= fun t => if t = true then f s >>= fun s' => whileO c f n s' else pure s
theorem w1_while (C : XC X N sc k E) {Δ : S → List Slot} {s0 : S} {mc : S → Out Bool} {f : S → Out S} (n : Nat) (w0 : Weak Γ (Δ s0)) (hc : ∀ s, WT X E B (Δ s) c (mc s)) (hb : ∀ s, WS X E B (Δ s) [body] (f s) (fun s' => .nx (Δ s'))) :
    W1 X E B Γ (.While c body [] pos) (whileO mc f n s0) (fun s => .nx (Δ s)) := fun σ F H ω En en q => by
  refine ⟨_, ps_while C.own pt_s pss_s, ?_⟩
  refine ⟨fun m σ' H' => ∃ s F' ω', Same F F' ∧ EnvOk X.K B (Δ s) σ' F' H' ω' ∧ Post (whileO mc f m s) (fun s => EndOk X.K B F En (.nx (Δ s))) (RB X.K B E), ⟨n, s0, F, ω, Same.refl F, en.weak w0, q⟩, ?_⟩
  rintro m σ' H' ⟨s, F', ω', sf, en', q⟩
  cases m with
  | zero => exact q.elim
  | succ m =>
    refine hc s σ' F' H' ω' _ en' (Post.imp (Post.bind q) fun t q F1 H1 s1 => ?_)
    have en1 := en'.stp s1
    cases t with
    | false =>
      have q1 : EndOk X.K B F En (.nx (Δ s)) := q
      exact q1 σ' F1 H1 ω' (sf.trans s1.ff) en1
    | true =>
      refine ⟨_, fun σ2 H2 h => h, ?_⟩
      have h := hb s σ' F1 H1 ω' { En with nx := fun σ2 H2 => ∃ m', m' < m + 1 ∧ ∃ s F' ω', Same F F' ∧ EnvOk X.K B (Δ s) σ2 F' H2 ω' ∧ Post (whileO mc f m' s) (fun s => EndOk X.K B F En (.nx (Δ s))) (RB X.K B E), ct := fun σ2 H2 => ∃ m', m' < m + 1 ∧ ∃ s F' ω', Same F F' ∧ EnvOk X.K B (Δ s) σ2 F' H2 ω' ∧ Post (whileO mc f m' s) (fun s => EndOk X.K B F En (.nx (Δ s))) (RB X.K B E), bk := En.nx } en1
        (Post.imp (Post.bind q) fun s' q σ4 F4 H4 ω4 s4 en4 => ⟨m, Nat.lt_succ_self m, s', F4, ω4, (sf.trans s1.ff).trans s4, en4, q⟩)
      exact h
def whileR {S ρ : Type} (c : S → Out Bool) (f : S → Out (Step ρ S)) : Nat → S → Out (Step ρ S)
  | 0, _ => .stuck
  | n + 1, s => c s >>= fun t => if t = true then f s >>= fun t => match t with
      | .nx s' => whileR c f n s'
      | .rt r => pure (.rt r)
    else pure (.nx s)
theorem w1_whileR (C : XC X N sc k E) {Δ : S → List Slot} {s0 : S} {mc : S → Out Bool} {f : S → Out (Step ρ S)} {Rt : ρ → SOut} (n : Nat) (w0 : Weak Γ (Δ s0)) (hc : ∀ s, WT X E B (Δ s) c (mc s)) (hb : ∀ s, WS X E B (Δ s) [body] (f s) (DR Δ Rt))
    (hR : ∀ r, (∃ α T a, Rt r = .rt α T a) ∨ (∃ α O a, Rt r = .ro α O a)) : W1 X E B Γ (.While c body [] pos) (whileR mc f n s0) (DR Δ Rt) := fun σ F H ω En en q => by
  refine ⟨_, ps_while C.own pt_s pss_s, ?_⟩
  refine ⟨fun m σ' H' => ∃ s F' ω', Same F F' ∧ EnvOk X.K B (Δ s) σ' F' H' ω' ∧ Post (whileR mc f m s) (fun t => EndOk X.K B F En (DR Δ Rt t)) (RB X.K B E), ⟨n, s0, F, ω, Same.refl F, en.weak w0, q⟩, ?_⟩
  rintro m σ' H' ⟨s, F', ω', sf, en', q⟩
  cases m with
  | zero => exact q.elim
  | succ m =>
    refine hc s σ' F' H' ω' _ en' (Post.imp (Post.bind q) fun t q F1 H1 s1 => ?_)
    have en1 := en'.stp s1
    cases t with
    | false =>
      have q1 : EndOk X.K B F En (.nx (Δ s)) := q
      exact q1 σ' F1 H1 ω' (sf.trans s1.ff) en1
    | true =>
      refine ⟨_, fun σ2 H2 h => h, ?_⟩
      have h := hb s σ' F1 H1 ω' { En with nx := fun σ2 H2 => ∃ m', m' < m + 1 ∧ ∃ s F' ω', Same F F' ∧ EnvOk X.K B (Δ s) σ2 F' H2 ω' ∧ Post (whileR mc f m' s) (fun t => EndOk X.K B F En (DR Δ Rt t)) (RB X.K B E), ct := fun σ2 H2 => ∃ m', m' < m + 1 ∧ ∃ s F' ω', Same F F' ∧ EnvOk X.K B (Δ s) σ2 F' H2 ω' ∧ Post (whileR mc f m' s) (fun t => EndOk X.K B F En (DR Δ Rt t)) (RB X.K B E), bk := En.nx } en1
        (Post.imp (Post.bind q) fun t q => ?_)
      · exact h
      · cases t with
        | nx s' => exact fun σ4 F4 H4 ω4 s4 en4 => ⟨m, Nat.lt_succ_self m, s', F4, ω4, (sf.trans s1.ff).trans s4, en4, q⟩
        | rt r =>
          have q1 : EndOk X.K B F En (Rt r) := q
          show EndOk X.K B F1 _ (Rt r)
          rcases hR r with ⟨α, T, a, e⟩ | ⟨α, O, a, e⟩
          · rw [e] at q1 ⊢
            exact q1
          · rw [e] at q1 ⊢
            exact q1
end
end SL

set_option Elab.async false
set_option linter.all false
set_option maxRecDepth 100000
set_option maxHeartbeats 2000000
/-! SLg: comprehensions. -/
namespace SL
open PySem PySem.Spec PyProof.Rows L2
variable {X : Cx} {N : List Str} {sc : Scp} {k : Nat} {E : XK} {B : Bs} {Γ : List Slot}

abbrev bx (X : Cx) (scope : Scope) (s : Shared) (H : Hp) (Cc : Addr) (cl : List (Str × Addr)) (fp : List Addr) : Cx := X.blk s H scope (compEnvC scope cl Cc X.env) fp
/-- in all blocks of the scope -/
def uE (X : Cx) (scope : Scope) (e : Expr) : TE := fun σ H Q => ∀ s H' Cc cl fp, sE (bx X scope s H' Cc cl fp) e σ H Q
def uG (X : Cx) (scope : Scope) (e : Expr) : TG := fun v σ H Q => ∀ s H' Cc cl fp, sG (bx X scope s H' Cc cl fp) e v σ H Q
def sTs (X : Cx) (ifs : List Expr) : TT := fun σ H Q => ∃ t, PTs X ifs t ∧ t σ H Q
def uT (X : Cx) (scope : Scope) (ifs : List Expr) : TT := fun σ H Q => ∀ s H' Cc cl fp, sTs (bx X scope s H' Cc cl fp) ifs σ H Q
def uI (X : Cx) (scope : Scope) (tg iter : Expr) : TI := fun σ H R => ∀ s H' Cc cl fp, sI (bx X scope s H' Cc cl fp) tg iter σ H R
theorem pe_u {scope : Scope} {e : Expr} (s : Shared) (H' : Hp) (Cc : Addr) (cl : List (Str × Addr)) (fp : List Addr) : PE (bx X scope s H' Cc cl fp) e (uE X scope e) := ⟨fun pins s' σ H Q I h => pe_s.run pins s' σ H Q I (h s H' Cc cl fp)⟩
theorem pg_u {scope : Scope} {e : Expr} (s : Shared) (H' : Hp) (Cc : Addr) (cl : List (Str × Addr)) (fp : List Addr) : PG (bx X scope s H' Cc cl fp) e (uG X scope e) := ⟨fun pins s' σ H v u Q I r h => pg_s.run pins s' σ H v u Q I r (h s H' Cc cl fp)⟩
theorem pts_s {ifs : List Expr} : PTs X ifs (sTs X ifs) := ⟨fun pins s σ H Q I ⟨_, p, h⟩ => p.run pins s σ H Q I h⟩
theorem pts_u {scope : Scope} {ifs : List Expr} (s : Shared) (H' : Hp) (Cc : Addr) (cl : List (Str × Addr)) (fp : List Addr) : PTs (bx X scope s H' Cc cl fp) ifs (uT X scope ifs) := ⟨fun pins s' σ H Q I h => pts_s.run pins s' σ H Q I (h s H' Cc cl fp)⟩
theorem pi_u {scope : Scope} {tg iter : Expr} (s : Shared) (H' : Hp) (Cc : Addr) (cl : List (Str × Addr)) (fp : List Addr) : PI (bx X scope s H' Cc cl fp) tg iter (uI X scope tg iter) := ⟨fun pins s' σ H R I h => pi_s.run pins s' σ H R I (h s H' Cc cl fp)⟩
theorem relS_loc {scope s0 : Scope} {x : Str} (h : L2.Loc scope x) : L2.Loc (relS scope s0) x := by
  rcases h with h | h
  · exact .inl (lookup_relS_keep (by decide) h)
  · exact .inr (lookup_relS_keep (by decide) h)
/-- a block's context -/
theorem xc_blk (C : XC X N sc k E) {scope : Scope} (s : Shared) (H' : Hp) (Cc : Addr) (cl : List (Str × Addr)) (fp : List Addr) : XC (bx X scope s H' Cc cl fp) N ⟨relS scope sc.sc, scope⟩ k E0 := by
  refine ⟨C.nm, C.nd, ?_, C.calm, C.room, passL, PassesOwn.never, fun x h => ?_⟩
  · show relS scope X.env.scope = _
    rw [C.scp]
  · refine ⟨relS_loc h, ?_⟩
    rcases h with h | h
    · exact .inr (lookup_relS_keep (by decide) h)
    · refine .inl ?_
      show (scope.names.lookup x == some .cell) = true
      rw [h] <;> rfl
theorem fre_blk {scope : Scope} (Z : Fre X.mg) (s : Shared) (H' : Hp) (Cc : Addr) (cl : List (Str × Addr)) (fp : List Addr) : Fre (bx X scope s H' Cc cl fp).mg := Z
/-- tests of a clause -/
def WTs (X : Cx) (E : XK) (B : Bs) (Γ : List Slot) (ifs : List Expr) (m : Out Bool) : Prop :=
  ∀ σ F H ω Q, EnvOk X.K B Γ σ F H ω → Post m (fun b => ∀ F' H', Stp F H F' H' → Q b H') (RB X.K B E) → sTs X ifs σ H Q
theorem wts_nil : WTs X E B Γ [] (pure true) := fun σ F H ω Q en p => ⟨_, pts_nil, p F H (Stp.refl en.fh)⟩
theorem wts_one {c : Expr} {m : Out Bool} (h : WT X E B Γ c m) : WTs X E B Γ [c] m := fun σ F H ω Q en p => ⟨_, pts_one pt_s, h σ F H ω Q en p⟩

/-! ### the block's slots -/
def wipeS (Γ : List Slot) : List Nat → List Slot
  | [] => Γ
  | v :: vs => (wipeS Γ vs).set v .any
theorem wipeS_at {Γ : List Slot} : ∀ {vs : List Nat} {j : Nat} {s : Slot}, (wipeS Γ vs)[j]? = some s → s = .any ∨ (Γ[j]? = some s ∧ j ∉ vs)
  | [], j, s, h => .inr ⟨h, by simp⟩
  | v :: vs, j, s, h => by
    unfold wipeS at h
    by_cases c : v = j
    · subst c
      by_cases hv : v < (wipeS Γ vs).length
      · rw [List.getElem?_set_self hv] at h
        exact .inl (Option.some.inj h).symm
      · rw [List.getElem?_eq_none (by simpa using hv)] at h
        cases h
    · rw [List.getElem?_set_ne c] at h
      rcases wipeS_at h with q | ⟨q1, q2⟩
      · exact .inl q
      · exact .inr ⟨q1, by simp only [List.mem_cons, not_or]; exact ⟨fun z => c z.symm, q2⟩⟩
theorem wipeS_len {Γ : List Slot} : ∀ vs : List Nat, (wipeS Γ vs).length = Γ.length
  | [] => rfl
  | v :: vs => by unfold wipeS; rw [List.length_set, wipeS_len vs]
theorem env_wipe {K : PySem.W.Frag} {Γ : List Slot} {σ : L2.St} {F H : Hp} {ω : Ow} (e : EnvOk K B Γ σ F H ω) (vs : List Nat) : EnvOk K B (wipeS Γ vs) (wipe σ vs) F H ω :=
  ⟨e.base, by rw [wipe_length, wipeS_len, e.len], e.own, fun j s h => by
    rcases wipeS_at h with q | ⟨q1, q2⟩
    · rw [q]; trivial
    · rw [wipe_out q2]
      exact e.slot j s q1⟩
theorem wipe_in {σ : L2.St} {i : Nat} : ∀ {vs : List Nat}, i ∈ vs → i < σ.length → (wipe σ vs)[i]? = some none
  | [], h, _ => by simp at h
  | v :: vs, h, hi => by
    unfold wipe
    by_cases c : v = i
    · subst c
      rw [List.getElem?_set_self (by rw [wipe_length]; exact hi)]
    · rw [List.getElem?_set_ne c]
      exact wipe_in ((List.mem_cons.mp h).resolve_left fun z => c z.symm) hi
theorem wipe_eq {σ τ : L2.St} {vs ix : List Nat} (h : ∀ j, j ∉ ix → σ[j]? = τ[j]?) (hl : σ.length = τ.length) (hs : ∀ j ∈ ix, j ∈ vs) : wipe σ vs = wipe τ vs := by
  refine List.ext_getElem? fun j => ?_
  by_cases c : j ∈ vs
  · by_cases hj : j < σ.length
    · rw [wipe_in c hj, wipe_in c (by rw [← hl]; exact hj)]
    · rw [List.getElem?_eq_none (by rw [wipe_length]; omega), List.getElem?_eq_none (by rw [wipe_length]; omega)]
  · rw [wipe_out c, wipe_out c]
    exact h j fun z => c (hs j z)
theorem wipe_wipe (σ : L2.St) (vs : List Nat) : wipe (wipe σ vs) vs = wipe σ vs := by
  refine List.ext_getElem? fun j => ?_
  by_cases c : j ∈ vs
  · by_cases hj : j < σ.length
    · rw [wipe_in c (by rw [wipe_length]; exact hj), wipe_in c hj]
    · rw [List.getElem?_eq_none (by rw [wipe_length, wipe_length]; omega), List.getElem?_eq_none (by rw [wipe_length]; omega)]
  · rw [wipe_out c]

/-! ### what a comprehension makes -/
def compO {α β : Type} (f : α → Out (Option β)) : List α → Out (List β)
  | [] => pure []
  | x :: xs => match f x with
    | .ok none => compO f xs
    | .ok (some b) => (match compO f xs with
      | .ok bs => .ok (b :: bs)
      | _ => .stuck)
    | _ => .stuck
def mapO {α β : Type} (f : α → Out β) : List α → Out (List β)
  | [] => pure []
  | x :: xs => match f x with
    | .ok b => (match mapO f xs with
      | .ok bs => .ok (b :: bs)
      | _ => .stuck)
    | _ => .stuck
theorem comp_map {α β : Type} (f : α → Out β) : ∀ xs : List α, compO (fun x => f x >>= fun b => pure (some b)) xs = mapO f xs
  | [] => rfl
  | x :: xs => by
    unfold compO mapO
    rw [comp_map f xs]
    cases f x <;> rfl
theorem Stp.updN {F H F' H' : Hp} {D : Addr} {o : HO} (s : Stp F H F' H') (h1 : H D = none) (h2 : F' D = none) : Stp F H F' (upd H' D o) :=
  ⟨s.ff, fun a u e => by
    rw [upd_ne (fun z => by rw [z, h2] at e; cases e)]
    exact s.fh a u e, fun a u e => by
    rw [upd_ne (fun z => by rw [z, h1] at e; cases e)]
    exact s.hh a u e, s.old⟩
/-- the tests and the element, an Option -/
def ifO {β : Type} (c : Out Bool) (m : Out β) : Out (Option β) := c >>= fun t => if t = true then m >>= fun b => pure (some b) else pure none
theorem ifO_none {β : Type} {c : Out Bool} {m : Out β} (h : ifO c m = .ok none) : c = .ok false := by
  unfold ifO at h
  cases c with
  | ok t =>
    cases t with
    | false => rfl
    | true =>
      cases m <;> cases h
  | err x => cases h
  | stuck => cases h
theorem ifO_some {β : Type} {c : Out Bool} {m : Out β} {b : β} (h : ifO c m = .ok (some b)) : c = .ok true ∧ m = .ok b := by
  unfold ifO at h
  cases c with
  | ok t =>
    cases t with
    | false => cases h
    | true =>
      cases m with
      | ok a => cases h; exact ⟨rfl, rfl⟩
      | err x => cases h
      | stuck => cases h
  | err x => cases h
  | stuck => cases h
section
variable {tg iter elt : Expr} {ifs : List Expr} {scope : Scope} {own : List (Str × Nat)} {pos p : Pos} {α β : Type} {T : Ty α} {U : Ty β} {mi : Out (List α)} {ix : List Nat} {g : α → List Slot → List Slot} {mc : α → Out Bool} {m : α → Out β}
/-- the reading of a comprehension -/
theorem lc_read (C : XC X N sc k E) (hit : WI X E B Γ tg iter T mi) (hix : ∀ j ∈ ix, j ∈ own.map (·.2)) (hg : ∀ s H' Cc cl fp, WG (bx X scope s H' Cc cl fp) B tg T ix g)
    (hc : ∀ s H' Cc cl fp a, WTs (bx X scope s H' Cc cl fp) E0 B (g a (wipeS Γ (own.map (·.2)))) ifs (mc a)) (he : ∀ s H' Cc cl fp a, WE (bx X scope s H' Cc cl fp) E0 B (g a (wipeS Γ (own.map (·.2)))) elt U.rl (m a))
    {σ : L2.St} {F H : Hp} {ω : Ow} {Q : VK} (en : EnvOk X.K B Γ σ F H ω) (po : Post (mi >>= compO fun a => ifO (mc a) (m a)) (fun bs => ∀ v F' H' S, Stp F H F' H' → (∀ p, S p → F' p = none ∧ H' p ≠ none ∧ H p = none) → (oLst U).rel X.K F' H' S v bs → Q v H') (RB X.K B E)) :
    tLc (sI X tg iter) (uG X scope tg) (uT X scope ifs) (uE X scope elt) (own.map (·.2)) σ H Q := by
  refine hit σ F H ω _ en (po.bind.imp fun xs q J F1 H1 s1 tw hl D hD => ?_)
  have hD0 : H D = none := s1.hh.free hD
  have hF1 : F1 D = none := s1.fh.free hD
  obtain ⟨bs, hb, q⟩ : ∃ bs, compO (fun a => ifO (mc a) (m a)) xs = .ok bs ∧ ∀ v F' H' S, Stp F H F' H' → (∀ p, S p → F' p = none ∧ H' p ≠ none ∧ H p = none) → (oLst U).rel X.K F' H' S v bs → Q v H' := by
    cases e : compO (fun a => ifO (mc a) (m a)) xs with
    | ok bs => rw [e] at q; exact ⟨bs, rfl, q⟩
    | err x =>
      exfalso
      have : ∀ ys : List α, compO (fun a => ifO (mc a) (m a)) ys ≠ .err x := by
        intro ys
        induction ys with
        | nil => intro z; cases z
        | cons y ys ih =>
          intro z
          unfold compO at z
          split at z
          · exact ih z
          · split at z <;> cases z
          · cases z
      exact this xs e
    | stuck => rw [e] at q; exact q.elim
  have enw := env_wipe (en.stp s1) (own.map (·.2))
  refine ⟨fun i mm H' => mm = xs.length - i ∧ i ≤ xs.length ∧ ∃ F' vs acc rest, Stp F1 H1 F' H' ∧ F' D = none ∧ H' D = some (.lst vs) ∧ Fa2 (U.rel X.K F') vs acc ∧ acc.length ≤ i ∧ compO (fun a => ifO (mc a) (m a)) (xs.drop i) = .ok rest ∧ bs = acc ++ rest,
    ⟨xs.length, by simp, Nat.zero_le _, F1, [], [], bs, Stp.newH s1.fh hD, hF1, upd_same, .nil, Nat.le_refl _, by rw [List.drop_zero]; exact hb, rfl⟩, ?_⟩
  rintro i mm H' ⟨rfl, hi, F', vs, acc, rest, s', hF', hH', ra, hacc, hr, ebs⟩
  by_cases hlt : i < xs.length
  · refine .inr ⟨tw.goes i F' H' hlt s'.ff s'.fh, _, fun H2 h => h, fun x H2 y => ?_⟩
    obtain ⟨F2, a, s2, ea, rx⟩ := tw.yields i F' H' x H2 hlt s'.ff s'.fh y
    have ed : xs.drop i = a :: xs.drop (i + 1) := by
      rw [List.getElem?_eq_getElem hlt] at ea
      rw [List.drop_eq_getElem_cons hlt, Option.some.inj ea]
    rw [ed] at hr
    have s3 := s'.trans s2
    have hF2 : F2 D = none := s2.old D hF' (by rw [hH']; exact fun z => nomatch z)
    have hH2 : H2 D = some (.lst vs) := s2.hh _ _ hH'
    intro sb Hb Cb clb fpb
    refine hg sb Hb Cb clb fpb _ F2 H2 ω _ x a _ (enw.stp s3) rx fun σ2 ω2 k2 l2 _ en2 => ?_
    refine ⟨(wipe_eq k2 l2 hix).trans (wipe_wipe _ _), ?_⟩
    intro sc2 Hc2 Cc2 clc2 fpc2
    -- what the item gives
    have hcase : (ifO (mc a) (m a) = .ok none ∧ compO (fun a => ifO (mc a) (m a)) (xs.drop (i + 1)) = .ok rest) ∨ ∃ b r2, ifO (mc a) (m a) = .ok (some b) ∧ compO (fun a => ifO (mc a) (m a)) (xs.drop (i + 1)) = .ok r2 ∧ rest = b :: r2 := by
      unfold compO at hr
      cases e : ifO (mc a) (m a) with
      | ok o =>
        rw [e] at hr
        cases o with
        | none => exact .inl ⟨rfl, hr⟩
        | some b =>
          cases e2 : compO (fun a => ifO (mc a) (m a)) (xs.drop (i + 1)) with
          | ok r2 =>
            simp only [e2] at hr
            cases hr
            exact .inr ⟨b, r2, rfl, rfl, rfl⟩
          | err x => simp only [e2] at hr; cases hr
          | stuck => simp only [e2] at hr; cases hr
      | err x => rw [e] at hr; cases hr
      | stuck => rw [e] at hr; cases hr
    rcases hcase with ⟨e1, e2⟩ | ⟨b, r2, e1, e2, e3⟩
    · have hm := ifO_none e1
      refine hc sc2 Hc2 Cc2 clc2 fpc2 a σ2 F2 H2 ω2 _ en2 ?_
      rw [hm]
      intro F3 H3 s4
      show if false = true then _ else _
      rw [if_neg Bool.false_ne_true]
      exact ⟨xs.length - (i + 1), by omega, rfl, hlt, F3, vs, acc, rest, s3.trans s4, s4.old D hF2 (by rw [hH2]; exact fun z => nomatch z), s4.hh _ _ hH2, ra.imp fun _ _ => U.mono (s2.trans s4).ff, by omega, e2, ebs⟩
    · obtain ⟨hm, hv⟩ := ifO_some e1
      refine hc sc2 Hc2 Cc2 clc2 fpc2 a σ2 F2 H2 ω2 _ en2 ?_
      rw [hm]
      intro F3 H3 s4
      show if true = true then _ else _
      rw [if_pos rfl]
      intro se He Ce cle fpe
      refine he se He Ce cle fpe a σ2 F3 H3 ω2 _ (en2.stp s4) ?_
      rw [hv]
      intro v F4 H4 s5 rv
      have s6 := (s3.trans s4).trans s5
      have hF4 : F4 D = none := (s4.trans s5).old D hF2 (by rw [hH2]; exact fun z => nomatch z)
      have hH4 : H4 D = some (.lst vs) := (s4.trans s5).hh _ _ hH2
      refine ⟨vs, hH4, by rw [ra.len]; omega, ?_⟩
      exact ⟨xs.length - (i + 1), by omega, rfl, hlt, F4, vs ++ [v], acc ++ [b], r2, s6.updN hD hF4, hF4, upd_same, (ra.imp fun _ _ => U.mono ((s2.trans s4).trans s5).ff).app (.cons rv .nil), by rw [List.length_append, List.length_singleton]; omega, e2, by rw [ebs, e3, List.append_assoc] <;> rfl⟩
  · have e : i = xs.length := by omega
    subst e
    rw [List.drop_length] at hr
    have er : rest = [] := by cases hr; rfl
    subst er
    rw [List.append_nil] at ebs
    subst ebs
    refine .inl ⟨tw.stops F' H' s'.ff s'.fh, ?_⟩
    exact q (.ref D) F' H' (fun a => a = D) (s1.trans s') (fun a e => by
      subst e
      exact ⟨hF', (by rw [hH']; exact fun z => nomatch z), hD0⟩) ⟨D, vs, rfl, rfl, hH', ra⟩
theorem blk_ok (C : XC X N sc k E) (h : blkC N sc.sc scope own = true) : BlkOk X.N X.env.scope scope own := by
  rw [C.nm, C.scp]
  exact blkOk_by h
/-- [elt for tg in iter if c] -/
theorem wo_lcif (C : XC X N sc k E) (own : List (Str × Nat)) (hk : blkC N sc.sc scope own = true) (hit : WI X E B Γ tg iter T mi) (hix : ∀ j ∈ ix, j ∈ own.map (·.2)) (hg : ∀ s H' Cc cl fp, XC (bx X scope s H' Cc cl fp) N ⟨relS scope sc.sc, scope⟩ k E0 → WG (bx X scope s H' Cc cl fp) B tg T ix g)
    (hc : ∀ s H' Cc cl fp a, XC (bx X scope s H' Cc cl fp) N ⟨relS scope sc.sc, scope⟩ k E0 → WTs (bx X scope s H' Cc cl fp) E0 B (g a (wipeS Γ (own.map (·.2)))) ifs (mc a)) (he : ∀ s H' Cc cl fp a, XC (bx X scope s H' Cc cl fp) N ⟨relS scope sc.sc, scope⟩ k E0 → WE (bx X scope s H' Cc cl fp) E0 B (g a (wipeS Γ (own.map (·.2)))) elt U.rl (m a))
    (hs : ∀ x, foldedSetIterable iter X.env x = pure x := by intro _; rfl) : WO X E B Γ (.ListComp elt [⟨tg, iter, ifs, 0⟩] scope pos) (oLst U) (mi >>= compO fun a => ifO (mc a) (m a)) := fun σ F H ω Q en po =>
  ⟨_, pe_lc C.calm (by rw [C.nm]; exact C.nd) pi_s (blk_ok C hk) pg_u pts_u pe_u hs, lc_read C hit hix (fun s H' Cc cl fp => hg s H' Cc cl fp (xc_blk C s H' Cc cl fp)) (fun s H' Cc cl fp a => hc s H' Cc cl fp a (xc_blk C s H' Cc cl fp)) (fun s H' Cc cl fp a => he s H' Cc cl fp a (xc_blk C s H' Cc cl fp)) en po⟩
theorem ifO_true {β : Type} (m : Out β) : ifO (pure true) m = (m >>= fun b => pure (some b)) := rfl
/-- [elt for tg in iter] -/
theorem wo_lc (C : XC X N sc k E) (own : List (Str × Nat)) (hk : blkC N sc.sc scope own = true) (hit : WI X E B Γ tg iter T mi) (hix : ∀ j ∈ ix, j ∈ own.map (·.2)) (hg : ∀ s H' Cc cl fp, XC (bx X scope s H' Cc cl fp) N ⟨relS scope sc.sc, scope⟩ k E0 → WG (bx X scope s H' Cc cl fp) B tg T ix g)
    (he : ∀ s H' Cc cl fp a, XC (bx X scope s H' Cc cl fp) N ⟨relS scope sc.sc, scope⟩ k E0 → WE (bx X scope s H' Cc cl fp) E0 B (g a (wipeS Γ (own.map (·.2)))) elt U.rl (m a))
    (hs : ∀ x, foldedSetIterable iter X.env x = pure x := by intro _; rfl) : WO X E B Γ (.ListComp elt [⟨tg, iter, [], 0⟩] scope pos) (oLst U) (mi >>= fun xs => mapO m xs) := by
  have h := wo_lcif (pos := pos) (mc := fun _ => pure true) C own hk hit hix hg (fun _ _ _ _ _ _ _ => wts_nil) he hs
  have e : (fun xs : List α => mapO m xs) = compO fun a => ifO (pure true) (m a) := funext fun xs => (comp_map m xs).symm
  rw [e]
  exact h
/-- name = [..] on one line, the name a local -/
theorem ws_lcif {b : List Stmt} {bs : List (List Stmt)} {γ : Type} {D : γ → SOut} {f : List β → Out γ} {y : Str} {py spos : Pos} (C : XC X N sc k E) (i : Nat) (own : List (Str × Nat)) (hk : blkC N sc.sc scope own = true) (hit : WI X E B Γ tg iter T mi) (hix : ∀ j ∈ ix, j ∈ own.map (·.2)) (hg : ∀ s H' Cc cl fp, XC (bx X scope s H' Cc cl fp) N ⟨relS scope sc.sc, scope⟩ k E0 → WG (bx X scope s H' Cc cl fp) B tg T ix g)
    (hc : ∀ s H' Cc cl fp a, XC (bx X scope s H' Cc cl fp) N ⟨relS scope sc.sc, scope⟩ k E0 → WTs (bx X scope s H' Cc cl fp) E0 B (g a (wipeS Γ (own.map (·.2)))) ifs (mc a)) (he : ∀ s H' Cc cl fp a, XC (bx X scope s H' Cc cl fp) N ⟨relS scope sc.sc, scope⟩ k E0 → WE (bx X scope s H' Cc cl fp) E0 B (g a (wipeS Γ (own.map (·.2)))) elt U.rl (m a))
    (hr : ∀ a, WS X E B (Γ.set i (.on _ (oLst U) a)) (b :: bs) (f a) D) (hN : N[i]? = some y := by rfl) (hyl : sc.sc.names.lookup y = some .local := by rfl) (hkd : sc.sc.kind = .function := by rfl) (hln : (py.line == pos.line) = true := by rfl)
    (hna : (scope.names.any fun (n, k) => n == y && (k == .local || k == .cell)) = false := by decide +kernel) (hs : ∀ x, foldedSetIterable iter X.env x = pure x := by intro _; rfl) :
    WS X E B Γ ((.Assign [.Name y py] (.ListComp elt [⟨tg, iter, ifs, 0⟩] scope pos) spos :: b) :: bs) ((mi >>= compO fun a => ifO (mc a) (m a)) >>= f) D := fun σ F H ω En en q => by
  have hyl' : X.env.scope.names.lookup y = some .local := by rw [C.scp]; exact hyl
  refine sK_cons ⟨_, ps_setLc (i := i) C.calm (by rw [C.nm]; exact C.nd) (by rw [C.nm]; exact hN) hyl' (sw_true (by rw [C.scp]; exact hkd) hyl' hln hna) pi_s (blk_ok C hk) pg_u pts_u pe_u hs, ?_⟩
  refine lc_read C hit hix (fun s H' Cc cl fp => hg s H' Cc cl fp (xc_blk C s H' Cc cl fp)) (fun s H' Cc cl fp a => hc s H' Cc cl fp a (xc_blk C s H' Cc cl fp)) (fun s H' Cc cl fp a => he s H' Cc cl fp a (xc_blk C s H' Cc cl fp)) en (q.bind.imp fun a q v F1 H1 S s1 d r => ?_)
  obtain ⟨ω', en'⟩ := env_setO (i := i) (en.stp s1) (new_ok en s1 d) r
  exact hr a _ F1 H1 _ En en' (q.imp fun b z => EndOk.up z s1.ff)
theorem ws_lc {b : List Stmt} {bs : List (List Stmt)} {γ : Type} {D : γ → SOut} {f : List β → Out γ} {y : Str} {py spos : Pos} (C : XC X N sc k E) (i : Nat) (own : List (Str × Nat)) (hk : blkC N sc.sc scope own = true) (hit : WI X E B Γ tg iter T mi) (hix : ∀ j ∈ ix, j ∈ own.map (·.2)) (hg : ∀ s H' Cc cl fp, XC (bx X scope s H' Cc cl fp) N ⟨relS scope sc.sc, scope⟩ k E0 → WG (bx X scope s H' Cc cl fp) B tg T ix g)
    (he : ∀ s H' Cc cl fp a, XC (bx X scope s H' Cc cl fp) N ⟨relS scope sc.sc, scope⟩ k E0 → WE (bx X scope s H' Cc cl fp) E0 B (g a (wipeS Γ (own.map (·.2)))) elt U.rl (m a))
    (hr : ∀ a, WS X E B (Γ.set i (.on _ (oLst U) a)) (b :: bs) (f a) D) (hN : N[i]? = some y := by rfl) (hyl : sc.sc.names.lookup y = some .local := by rfl) (hkd : sc.sc.kind = .function := by rfl) (hln : (py.line == pos.line) = true := by rfl)
    (hna : (scope.names.any fun (n, k) => n == y && (k == .local || k == .cell)) = false := by decide +kernel) (hs : ∀ x, foldedSetIterable iter X.env x = pure x := by intro _; rfl) :
    WS X E B Γ ((.Assign [.Name y py] (.ListComp elt [⟨tg, iter, [], 0⟩] scope pos) spos :: b) :: bs) ((mi >>= fun xs => mapO m xs) >>= f) D := by
  have h := ws_lcif (pos := pos) (spos := spos) (py := py) (mc := fun _ => pure true) C i own hk hit hix hg (fun _ _ _ _ _ _ _ => wts_nil) he hr hN hyl hkd hln hna hs
  have e : (fun xs : List α => mapO m xs) = compO fun a => ifO (pure true) (m a) := funext fun xs => (comp_map m xs).symm
  rw [e]
  exact h
end
end SL
namespace SL
open PySem PySem.Spec PyProof.Rows L2
variable {X : Cx} {N : List Str} {sc : Scp} {k : Nat} {E : XK} {B : Bs} {Γ : List Slot}
/-! ### other words for the same outcome -/
theorem WO.cast {e : Expr} {α : Type} {O : Own α} {m m' : Out α} (h : WO X E B Γ e O m) (q : m = m') : WO X E B Γ e O m' := q ▸ h
theorem WT.cast {e : Expr} {m m' : Out Bool} (h : WT X E B Γ e m) (q : m = m') : WT X E B Γ e m' := q ▸ h
theorem WTs.cast {e : List Expr} {m m' : Out Bool} (h : WTs X E B Γ e m) (q : m = m') : WTs X E B Γ e m' := q ▸ h
theorem WI.cast {tg e : Expr} {α : Type} {T : Ty α} {m m' : Out (List α)} (h : WI X E B Γ tg e T m) (q : m = m') : WI X E B Γ tg e T m' := q ▸ h
theorem ws_ret0 {β : Type} {D : β → SOut} {b : List Stmt} {bs : List (List Stmt)} {e : Expr} {T : Ty β} {me : Out β} {pos : Pos} (h : WE X E B Γ e T.rl me) (hD : ∀ a, D a = .rt β T a) : WS X E B Γ ((.Return (some e) pos :: b) :: bs) me D := by
  have q : (me >>= fun a => pure a) = me := by cases me <;> rfl
  have := ws_ret (b := b) (bs := bs) (pos := pos) (g := fun a => a) h hD
  rw [q] at this
  exact this
theorem ws_retO0 {β : Type} {D : β → SOut} {b : List Stmt} {bs : List (List Stmt)} {e : Expr} {O : Own β} {me : Out β} {pos : Pos} (h : WO X E B Γ e O me) (hD : ∀ a, D a = .ro β O a) : WS X E B Γ ((.Return (some e) pos :: b) :: bs) me D := by
  have q : (me >>= fun a => pure a) = me := by cases me <;> rfl
  have := ws_retO (b := b) (bs := bs) (pos := pos) (g := fun a => a) h hD
  rw [q] at this
  exact this
end SL

set_option Elab.async false
set_option linter.all false
set_option maxRecDepth 100000
set_option maxHeartbeats 2000000
/-! SLh: further rules. -/
namespace SL
open PySem PySem.Spec PyProof.Rows L2
variable {X : Cx} {N : List Str} {sc : Scp} {k : Nat} {E : XK} {B : Bs} {Γ : List Slot}
/-- the end of a block behind which nothing lies -/
theorem ws_fin {β : Type} {D : β → SOut} {b : β} {Δ : List Slot} (hD : D b = .nx Δ) (w : Weak Γ Δ) : WS X E B Γ [[]] (pure b) D := ws_pop (ws_end hD w)
instance (i j : Int) : Decidable (CMulW i j) := inferInstanceAs (Decidable (_ < _))
/-- written products beyond 64 bits -/
theorem we_mulW {e1 e2 : Expr} {a b : Int} {pos : Pos} (n : Int) (h1 : WE X E B Γ e1 tInt.rl (pure a)) (h2 : WE X E B Γ e2 tInt.rl (pure b)) (h : (decide (CMulW a b) && decide (a * b = n)) = true := by decide +kernel) : WE X E B Γ (.BinOp e1 .Mult e2 pos) tInt.rl (pure n) := by
  have q := we_op (pos := pos) op_mulW v_I h1 h2
  rw [Bool.and_eq_true, decide_eq_true_eq, decide_eq_true_eq] at h
  have e : ((pure a : Out Int) >>= fun a => (pure b : Out Int) >>= fun b => if CMulW a b then pure (a * b) else .stuck) = pure n := by
    show (if CMulW a b then (pure (a * b) : Out Int) else .stuck) = pure n
    rw [if_pos h.1, h.2]
  rw [e] at q
  exact q
/-- a number of the module -/
theorem we_gint (C : XC X N sc k E) {x : Str} {n : Int} {pos : Pos} (h : ∃ t, X.mg x = some (.int n t)) (hg : GlN sc x := by rfl) (hdb : (x == ("__debug__" : Str)) = false := by decide) : WE X E B Γ (.Name x pos) tInt.rl (pure n) := fun σ F H ω Q en p => by
  obtain ⟨t, h⟩ := h
  exact ⟨_, pe_glob (v := .int n) (gl_ C hg) h ⟨t, rfl⟩ hdb, p _ F H (Stp.refl en.fh) rfl⟩
/-- a comprehension put under a name that is a cell, or one of the block's own -/
theorem sw_no (C : XC X N sc k E) {elt : Expr} {gs : List Comprehension} {scope : Scope} {pos py : Pos} {y : Str} {l : Nat} (h : sc.sc.names.lookup y = some .cell ∨ (scope.names.any fun (n, k) => n == y && (k == .local || k == .cell)) = true) :
    swapsWith (.ListComp elt gs scope pos) (some (.Name y py)) l X.env = pure false := by
  unfold swapsWith
  rcases h with h | h
  · have ky : X.env.kindOf y = some .cell := by
      unfold Env.kindOf
      rw [C.scp]
      exact h
    have z : (NameKind.cell == NameKind.local) = false := rfl
    simp [ky, z]
  · simp [h]
end SL

set_option Elab.async false
set_option linter.all false
set_option maxRecDepth 100000
set_option maxHeartbeats 2000000
/-! SLi: enumerate over tuples; sets of ints. -/
namespace SL
open PySem PySem.Spec PyProof.Rows L2
/-! ### enumerate(t), t a tuple -/
def IteT (K : PySem.W.Frag) (a : Addr) : It :=
  ⟨fun i H => ∃ (xs : List V) (x : V), SqT K H a xs ∧ xs[i]? = some x, fun i H v H' => ∃ T x, v = .ref T ∧ H T = none ∧ H' = upd H T (.tup [.int (i : Nat), x]) ∧ ∀ xs, SqT K H a xs → xs[i]? = some x, fun i H => ∃ xs : List V, SqT K H a xs ∧ xs.length ≤ i⟩
theorem turn_enumT {P : Program} {w : World} {K : PySem.W.Frag} {elts : List Expr} {kk : Nat} {tpos : Pos} (a e it : Addr) (hei : e ≠ it) (hai : a ≠ it) (hae : e ≠ a) :
    Turn P w K (.Tuple elts kk tpos) (IteT K a) [e, it] e (fun i h => (∃ old, IsEnum h e it ((i : Nat) : Int) old) ∧ h.IsTupleIter it a i) where
  mem := by simp
  obj := fun i h ⟨⟨old, he⟩, ⟨o, ho, hc, hd⟩⟩ b hb => by
    rcases (show b = e ∨ b = it by simpa using hb) with z | z
    · rw [z]; exact ⟨_, he, fun v q => nomatch q⟩
    · rw [z]; exact ⟨o, ho, fun v q => by rw [hd] at q; cases q⟩
  keep := fun i h h' ⟨⟨old, he⟩, hi⟩ k => ⟨⟨old, k e (by simp) _ he⟩, hi.at fun o q => k it (by simp) o q⟩
  item := by
    intro X hP hw hK hc i pins s σ H E I hf ⟨⟨old, he⟩, hit⟩ ⟨xs, x, hq, hx⟩
    subst hP hw hK
    obtain ⟨its, rv, p, hz⟩ := I.tuple hq
    obtain ⟨u, hu, ru⟩ := rv.get hx
    have hsz : i < its.toArray.size := by
      have := (List.getElem?_eq_some_iff.mp hu).1
      simpa using this
    have hel : e < s.heap.objs.size := Heap.lt_size he
    have hil : it < s.heap.objs.size := by obtain ⟨_, q, _⟩ := hit; exact Heap.lt_size q
    refine wpAny_pyNext_enum_itemD (Draws.tuple (A := X.A.in1) (show X.A.in1.handled = none from I.ok.hd hc) it a hai its.toArray) he ⟨hit, p⟩ hsz hei (by simp [hei, hae]) fun y h' tk hy ho st' hT hz2 hk => ?_
    have ey : y = u := by
      have hy' : its.toArray[i]? = some y := hy
      rw [List.getElem?_toArray, hu] at hy'
      exact (Option.some.inj hy').symm
    subst ey
    refine ⟨_, rfl, wpAny_letOwnedTupleGo_enum (s := { s with heap := h', toks := tk + 1 }) ho fun h'' he' sb => ?_⟩
    have hT2 : h''.get? s.heap.objs.size = some { cls := .type "tuple", data := .seq #[.int i tk, y] } := (sb.2 _ (Nat.ne_of_gt hel)).trans hT
    have new : ObjOk X.prog X.w (upd H s.heap.objs.size (.tup [.int (i : Nat), x])) h'' s.heap.objs.size (.tup [.int (i : Nat), x]) :=
      ⟨by show 2 ≤ sizeLine; decide, [.int i tk, y], .cons ⟨_, rfl⟩ (.cons ru .nil), ⟨_, hT2, rfl, _, rfl⟩⟩
    have I1 : Inv X pins σ (upd H s.heap.objs.size (.tup [.int (i : Nat), x])) { s with heap := h'', toks := tk + 1 } :=
      I.turnedNew (ch := [e, it]) (fun b ob hb q => (sb.2 b (fun z => hb (by simp [z]))).trans (hk b ob (fun z => hb (by simp [z])) (fun z => hb (by simp [z])) q)) hf (Nat.le_refl _) new
    refine ⟨.ref s.heap.objs.size, _, I1, rfl, ⟨_, x, rfl, I.hok.fresh (Nat.le_refl _), rfl, fun ys hy => by rw [I.tuple_inj hy hq]; exact hx⟩, ⟨⟨y, ?_⟩, st'.1.at fun o q => (sb.2 it (Ne.symm hei)).trans q⟩, fun b hb => ?_⟩
    · have e1 : ((i + 1 : Nat) : Int) = (i : Int) + 1 := by omega
      rw [e1]; exact he'
    · have hb' : b < s.heap.objs.size := by
        rcases (show b = e ∨ b = it by simpa using hb) with z | z
        · rw [z]; exact hel
        · rw [z]; exact hil
      rw [upd_ne (Nat.ne_of_lt hb')]
      exact (hf b hb).1
  done := by
    intro X hP hw hK hc i pins s σ H E I hf ⟨⟨old, he⟩, hit⟩ ⟨xs, hq, hx⟩
    subst hP hw hK
    obtain ⟨its, rv, p, hz⟩ := I.tuple hq
    obtain ⟨f0, f1, f2, f3, f4, f5⟩ := hf it (by simp)
    have hl := rv.length
    -- the walk stands at its end, or behind it
    have D2 : Draws X.prog X.w X.A.in1 it [it, a] i (fun i v => its.toArray[i]? = some v) (fun j h => j = i ∧ h.IsTupleIter it a i ∧ h.IsTuple a its.toArray) :=
      { live := fun _ _ st => let ⟨o, ho, _⟩ := st.2.1; ⟨o, ho⟩
        frame := fun _ _ _ st hk => ⟨st.1, st.2.1.at fun o e => hk it (by simp) o e, st.2.2.at fun o e => hk a (by simp) o e⟩
        item := fun j s Q E hj st hQ => absurd st.1 (Nat.ne_of_lt hj)
        done := fun s Q E st hE => wpAny_nextOf_tuple_end (I.ok.hd hc) st.2.1 st.2.2 (by simp; omega) hE }
    exact wpAny_pyNext_enum_endD D2 he ⟨rfl, hit, p⟩ fun h' eb => ⟨rfl, I.turned (t' := s.toks) (fun b o hb q => eb b o hb q) f0 f1 f3 f4 f5⟩
  self := fun A i s Q E ⟨⟨_, he⟩, _⟩ h => wpAny_pyIter_enum he h
theorem meets_enum1 {v : Value} {o : Obj} {H : Heap → Prop} (B : Begins v o H) :
    Meets (Builtin.«enumerate.__new__» ⟨[.type "enumerate", v], []⟩) (fun _ R s => H s.heap ∧
      R (.ok (.ret (.ref (s.heap.push o).objs.size))) { s with heap := (s.heap.push o).push { cls := .type "enumerate", data := .fields #[.none, .bool false, .ref s.heap.objs.size, rawInt 0, .none, .none] } }) :=
  .of_wp fun prog w A R s h => by
    obtain ⟨hp, g, d, tk, os⟩ := s; obtain ⟨h1, h⟩ := h
    have hsub := sub_enumerate
    have q1 : ∀ {A' : Around} {E : Value → Shared → Prop} {Q : Value → Shared → Prop}, Q (.ref hp.objs.size) ⟨hp.push o, g, d, tk, os⟩ → wpAny (model prog w) A' (pyIter v) Q E ⟨hp, g, d, tk, os⟩ :=
      fun q => B.iter prog w _ _ ⟨hp, g, d, tk, os⟩ _ h1 q
    wp_walk using q1
    refine wpAny_stack_any fun st => wpAny_pure ?_
    split
    · rename_i c _ _ _ _ _
      cases (c == Value.type "enumerate") <;> (wp_walk using q1; exact ⟨_, rfl, h⟩)
    · wp_walk using q1
      exact ⟨_, rfl, h⟩
theorem call_enum1 {prog : Program} {w : World} {A : Around} {E : Value → Shared → Prop} {s : Shared} {v : Value} {o : Obj} {H : Heap → Prop} {Q : Value → Shared → Prop} (B : Begins v o H) (h1 : H s.heap)
    (h : ∀ h', IsEnum h' (s.heap.objs.size + 1) s.heap.objs.size 0 .none → h'.get? s.heap.objs.size = some o → h'.objs.size = s.heap.objs.size + 2 →
      (∀ b o, s.heap.get? b = some o → h'.get? b = some o) → Q (.ref (s.heap.objs.size + 1)) { s with heap := h' }) :
    wpAny (model prog w) A (call (.type "enumerate") [v]) Q E s := by
  refine callType_new F.called_enumerate (by decide) (F.typeCall_enumerate_1 _) (F.newCall_enumerate_1 _) (fun obj => F.args_object_init_2 obj _) F.entry_enumerate_new (meets_enum1 B) ⟨h1, ?_⟩
  have hz : (s.heap.push o).objs.size = s.heap.objs.size + 1 := Heap.size_push ..
  show _ ∧ _
  rw [hz]
  have he : IsEnum ((s.heap.push o).push { cls := .type "enumerate", data := .fields #[.none, .bool false, .ref s.heap.objs.size, rawInt 0, .none, .none] }) (s.heap.objs.size + 1) s.heap.objs.size 0 .none := by
    have := Heap.get?_push_size (s.heap.push o) (o := { cls := .type "enumerate", data := .fields #[.none, .bool false, .ref s.heap.objs.size, rawInt 0, .none, .none] }) rfl
    rw [hz] at this; exact this
  exact ⟨⟨_, he, rfl⟩, h _ he (Heap.get?_push_of_some _ (Heap.get?_push_size _ B.free)) (by rw [Heap.size_push, hz]) fun b o x => Heap.get?_push_of_some _ (Heap.get?_push_of_some _ x)⟩
def iEnumT (K : PySem.W.Frag) (ta : TA) : TI := fun σ H R => ta σ H fun vs H1 => ∃ a xs, vs = [.ref a] ∧ SqT K H1 a xs ∧ R (IteT K a) H1
theorem pi_enumT {X : Cx} {e : Expr} {ta : TA} {p pos tpos : Pos} {elts : List Expr} {kk : Nat} (hg : Gl X "enumerate") (hm : X.mg "enumerate" = none) (ha : PA X [e] ta) (hs : starEach [e] X.env = [(false, eval e X.env)] := by rfl) :
    PI X (.Tuple elts kk tpos) (.Call (.Name "enumerate" p) [e] [] pos) (iEnumT X.K ta) := by
  refine ⟨fun pins s σ H R I h => ?_⟩
  refine Call_ (ld_blt I hg hm boot_enumerate (PyProof.Rows.callWith_type1 (thn (ha.run pos pins s σ H _ I h) fun us s1 ⟨vs, H1, I1, r1, a, xs, ex, hq, q⟩ => ?_) hs rfl))
  subst ex
  cases r1 with
  | cons r rr =>
    cases rr
    cases r
    obtain ⟨its, rv, p', hz⟩ := I1.tuple hq
    obtain ⟨oa, hoa, _⟩ := id p'
    have hal : a < s1.heap.objs.size := Heap.lt_size hoa
    refine call_enum1 (begins_tuple a its.toArray) p' fun h' he hit hsz hk => wpAny_pyIter_enum he ?_
    have I2 : Inv X pins σ H1 { s1 with heap := h' } := I1.kept (t' := s1.toks) hk
    have n1 : s1.heap.objs.size + 1 ≠ s1.heap.objs.size := Nat.succ_ne_self _
    refine ⟨s1.heap.objs.size + 1, [s1.heap.objs.size + 1, s1.heap.objs.size], _, _, H1, rfl, I2, turn_enumT a (s1.heap.objs.size + 1) s1.heap.objs.size n1 (Nat.ne_of_lt hal) (Nat.ne_of_gt (Nat.lt_succ_of_lt hal)), ⟨⟨.none, he⟩, ⟨_, hit, rfl, rfl⟩⟩, fun b hb => ?_, q⟩
    have hle : s1.heap.objs.size ≤ b := by
      rcases (show b = s1.heap.objs.size + 1 ∨ b = s1.heap.objs.size by simpa using hb) with z | z
      · rw [z]; exact Nat.le_add_right _ _
      · rw [z]; exact Nat.le_refl _
    exact I1.fpOk hle (I1.hok.fresh hle)
variable {X : Cx} {N : List Str} {sc : Scp} {k : Nat} {E : XK} {B : Bs} {Γ : List Slot}
/-! ### enumerate as a walk -/
def enumL {α : Type} (xs : List α) : List (Int × α) := (List.range xs.length).zip xs |>.map fun p => ((p.1 : Int), p.2)
theorem enumL_len {α : Type} (xs : List α) : (enumL xs).length = xs.length := by simp [enumL]
theorem enumL_get {α : Type} {xs : List α} {i : Nat} {a : α} (h : xs[i]? = some a) : (enumL xs)[i]? = some ((i : Int), a) := by
  have hi := (List.getElem?_eq_some_iff.mp h).1
  unfold enumL
  have z : ((List.range xs.length).zip xs)[i]? = some (i, a) := by
    rw [List.getElem?_zip_eq_some]
    exact ⟨List.getElem?_range hi, h⟩
  rw [List.getElem?_map, z]
  rfl
section
variable {elts : List Expr} {kk : Nat} {tpos : Pos} {e : Expr} {α : Type} {T : Ty α} {m : Out (List α)} {p pos : Pos}
theorem new_pair {K : PySem.W.Frag} {F H : Hp} {D : Addr} {v1 v2 : V} {α β : Type} {T : Ty α} {U : Ty β} {a : α} {b : β} (s : Same F H) (n : H D = none) (r1 : T.rel K F v1 a) (r2 : U.rel K F v2 b) :
    Stp F H (upd F D (.tup [v1, v2])) (upd H D (.tup [v1, v2])) ∧ (tT2 T U).rel K (upd F D (.tup [v1, v2])) (.ref D) (a, b) :=
  have q := Stp.new (o := .tup [v1, v2]) s n
  ⟨q, D, v1, v2, rfl, SqT.of upd_same, T.mono q.ff r1, U.mono q.ff r2⟩
theorem wi_enumT (C : XC X N sc k E) (Z : Fre X.mg) (h : WE X E B Γ e (tTup T).rl m) (hg : GlN sc "enumerate" := by rfl) (hs : starEach (e :: []) X.env = (false, eval e X.env) :: starEach [] X.env := by rfl) (hs2 : starEach [e] X.env = [(false, eval e X.env)] := by rfl) :
    WI X E B Γ (.Tuple elts kk tpos) (.Call (.Name "enumerate" p) [e] [] pos) (tT2 tInt T) (m >>= fun a => pure (enumL a)) := fun σ F H ω R en q => by
  refine ⟨_, pi_enumT (gl_ C hg) Z.enumerate (pa_cons (pe_lenQ pe_s) pa_nil hs) hs2, ?_⟩
  refine h σ F H ω _ en (q.bind.imp fun xs q v F1 H1 s1 ⟨a, vs, e, sq, r⟩ hl => ⟨a, vs, by rw [e], seqT s1.fh sq, q _ F1 H1 s1 ?_ ?_⟩)
  · refine ⟨fun i F H hi sf sh => ⟨vs, vs[i]'(by rw [r.len]; rw [enumL_len] at hi; exact hi), seqT sh (seqT sf sq), by simp⟩, fun F H sf sh => ⟨vs, seqT sh (seqT sf sq), by rw [r.len, enumL_len]; exact Nat.le_refl _⟩, fun i F H x H' hi sf sh y => ?_⟩
    obtain ⟨D, x1, rfl, hD, rfl, hx⟩ := y
    obtain ⟨b, hb, rb⟩ := r.getV (hx vs (seqT sh (seqT sf sq)))
    obtain ⟨s2, r2⟩ := new_pair (T := tInt) (U := T) (v1 := .int (i : Nat)) (a := ((i : Nat) : Int)) sh hD rfl (T.mono sf rb)
    exact ⟨_, _, s2, enumL_get hb, r2⟩
  · rw [enumL_len, ← r.len]
    exact sqT_len (seqT s1.fh sq) hl
/-- over a fixed list -/
theorem wi_enumL (C : XC X N sc k E) (Z : Fre X.mg) (h : WE X E B Γ e (tLst T).rl m) (hg : GlN sc "enumerate" := by rfl) (hs : starEach (e :: []) X.env = (false, eval e X.env) :: starEach [] X.env := by rfl) (hs2 : starEach [e] X.env = [(false, eval e X.env)] := by rfl) :
    WI X E B Γ (.Tuple elts kk tpos) (.Call (.Name "enumerate" p) [e] [] pos) (tT2 tInt T) (m >>= fun a => pure (enumL a)) := fun σ F H ω R en q => by
  refine ⟨_, pi_enum (gl_ C hg) Z.enumerate (pa_cons (pe_lenQ pe_s) pa_nil hs) hs2, ?_⟩
  refine h σ F H ω _ en (q.bind.imp fun xs q v F1 H1 s1 ⟨a, vs, e, sq, r⟩ hl => ⟨a, vs, by rw [e], SqL.of (s1.fh _ _ sq), q _ F1 H1 s1 ?_ ?_⟩)
  · refine ⟨fun i F H hi sf sh => ⟨vs, vs[i]'(by rw [r.len]; rw [enumL_len] at hi; exact hi), SqL.of (sh _ _ (sf _ _ sq)), by simp⟩, fun F H sf sh => ⟨vs, SqL.of (sh _ _ (sf _ _ sq)), by rw [r.len, enumL_len]; exact Nat.le_refl _⟩, fun i F H x H' hi sf sh y => ?_⟩
    obtain ⟨D, x1, rfl, hD, rfl, hx⟩ := y
    obtain ⟨b, hb, rb⟩ := r.getV (hx vs (SqL.of (sh _ _ (sf _ _ sq))))
    obtain ⟨s2, r2⟩ := new_pair (T := tInt) (U := T) (v1 := .int (i : Nat)) (a := ((i : Nat) : Int)) sh hD rfl (T.mono sf rb)
    exact ⟨_, _, s2, enumL_get hb, r2⟩
  · rw [enumL_len, ← r.len]
    exact hl a vs (.inl (.inl (s1.fh _ _ sq)))
end
end SL

set_option Elab.async false
set_option linter.all false
set_option maxRecDepth 100000
set_option maxHeartbeats 2000000
/-! SLj: sets of ints. -/
namespace SL
open PySem PySem.Spec PyProof.Rows L2
variable {X : Cx} {N : List Str} {sc : Scp} {k : Nat} {E : XK} {B : Bs} {Γ : List Slot}
/-- the members of the set at p: those of a -/
def SetAt (w : World) (H : Hp) (p : Addr) (a : List Int) : Prop := ∃ n, H p = some (SetO w p (fun k => decide (k ∈ a)) n) ∧ n ≤ a.length
def oSet (w : World) : Own (List Int) := ⟨fun K F H S v a => ∃ p, v = .ref p ∧ S p ∧ SetAt w H p a, fun ⟨p, e, sp, n, h, l⟩ s k => ⟨p, e, sp, n, (k p sp).trans h, l⟩⟩
def tSet (w : World) : Ty (List Int) := ⟨fun K F v a => ∃ p, v = .ref p ∧ SetAt w F p a, fun s ⟨p, e, n, h, l⟩ => ⟨p, e, n, s _ _ h, l⟩⟩
def rSet (w : World) : Rl (List Int) := ⟨fun K F H v a => ∃ p, v = .ref p ∧ SetAt w H p a, fun s ⟨p, e, n, h, l⟩ => ⟨p, e, n, s.hh _ _ h, l⟩⟩
theorem fz_set (w : World) : Fz (oSet w) (tSet w) := fun K F H S v a d ⟨p, e, sp, n, h, l⟩ => ⟨p, e, n, (frz_in sp).trans h, l⟩
theorem WE.rdS {w : World} {e : Expr} {m : Out (List Int)} (h : WE X E B Γ e (tSet w).rl m) : WE X E B Γ e (rSet w) m := fun σ F H ω Q en p =>
  h σ F H ω Q en (p.imp fun a q v F' H' s ⟨b, e, n, hb, l⟩ => q v F' H' s ⟨b, e, n, s.fh _ _ hb, l⟩)
theorem WO.rdS {w : World} {e : Expr} {m : Out (List Int)} (h : WO X E B Γ e (oSet w) m) : WE X E B Γ e (rSet w) m := fun σ F H ω Q en p =>
  h σ F H ω Q en (p.imp fun a q v F' H' S s d ⟨b, e, sb, r⟩ => q v F' H' s ⟨b, e, r⟩)
/-- the set of a slot -/
theorem we_sovar {w : World} (C : XC X N sc k E) (i : Nat) {x : Str} {pos : Pos} {a : List Int} (hΓ : Γ[i]? = some (.on _ (oSet w) a) := by rfl) (hN : N[i]? = some x := by rfl) (hv : Vis sc.sc x := by first | exact Or.inl rfl | exact Or.inr (Or.inl rfl) | exact Or.inr (Or.inr rfl))
    (hd : (x == ("__debug__" : Str)) = false := by decide) (hcd : (x == ("__classdict__" : Str)) = false := by decide) : WE X E B Γ (.Name x pos) (rSet w) (pure a) := fun σ F H ω Q en p => by
  obtain ⟨v, hs, b, e, sb, r⟩ := en.slot i _ hΓ
  exact ⟨_, pv_ C hN hv hd hcd, v, join_some hs, p v F H (Stp.refl en.fh) ⟨b, e, r⟩⟩
/-- set() -/
theorem wo_set0 (C : XC X N sc k E) (Z : Fre X.mg) {p pos : Pos} (hg : GlN sc "set" := by rfl) (hn : ("set" : Str) ≠ "__name__" := by decide) : WO X E B Γ (.Call (.Name "set" p) [] [] pos) (oSet X.w) (pure []) := fun σ F H ω Q en q =>
  ⟨_, pe_callTy0 cr_set0 (gl_ C hg) Z.set (by decide +kernel), rfl, fun p hp => q (.ref p) F _ (fun a => a = p) (Stp.newH en.fh hp) (fun a e => by
    subst e
    exact ⟨en.fh.free hp, (by rw [upd_same]; exact fun z => nomatch z), hp⟩) ⟨p, rfl, rfl, 0, by rw [upd_same] <;> simp, Nat.le_refl _⟩⟩
def addO (xs : List Int) (x : Int) : Out (List Int) := if xs.length < 4000 then pure (if x ∈ xs then xs else xs ++ [x]) else .stuck
/-- x.add(e) -/
theorem ws_add {β : Type} {D : β → SOut} {b : List Stmt} {bs : List (List Stmt)} {x : Str} {p p2 p3 pos : Pos} {e : Expr} {xs : List Int} {me : Out Int} {f : List Int → Out β} (C : XC X N sc k E) (i : Nat) (h : WE X E B Γ e tInt.rl me) (hr : ∀ a, WS X E B (Γ.set i (.on _ (oSet X.w) a)) (b :: bs) (f a) D)
    (hΓ : Γ[i]? = some (.on _ (oSet X.w) xs) := by rfl) (hN : N[i]? = some x := by rfl) (hv : Vis sc.sc x := by first | exact Or.inl rfl | exact Or.inr (Or.inl rfl) | exact Or.inr (Or.inr rfl))
    (hd : (x == ("__debug__" : Str)) = false := by decide) (hcd : (x == ("__classdict__" : Str)) = false := by decide) (hbase : attributeBase (.Name x p) "add" X.env (eval (.Name x p) X.env) = eval (.Name x p) X.env := by rfl)
    (hfew : ((backTo p3 (starEach (e :: []) X.env)).all (fun x => !x.1) && (backToKw p3 (keywordEach [] X.env)).all (fun x => x.1.isSome) && decide ((e :: []).length + ([] : List Keyword).length + (if ([] : List Keyword).isEmpty then 0 else 1) < 30)) = true := by rfl)
    (hline : (p2.endLine == p3.line) = true := by rfl) (hs : starEach (e :: []) X.env = (false, eval e X.env) :: starEach [] X.env := by rfl) (hpl : (backTo p3 (starEach ([] : List Expr) X.env)).any (·.1) = false := by rfl) (hsw : swapsWith (.Call (.Attribute (.Name x p) "add" p2) [e] [] p3) none pos.line X.env = pure false := by rfl) :
    WS X E B Γ ((.Expr (.Call (.Attribute (.Name x p) "add" p2) [e] [] p3) pos :: b) :: bs) (me >>= fun a => addO xs a >>= f) D := fun σ F H ω En en q => by
  refine sK_cons ⟨_, ps_expr (pe_sadd (pv_ C hN hv hd hcd) (pa_cons pe_s pa_nil hs) hbase hfew hline hs hpl) hsw, ?_⟩
  obtain ⟨v, hσ, l, rfl, hl, n, hH, hn⟩ := en.slot i _ hΓ
  have hσ := join_some hσ
  refine ⟨_, hσ, ⟨l, _, n, rfl, hH⟩, h σ F H ω _ en (q.bind.imp fun a q v F1 H1 s1 ra => ?_)⟩
  unfold addO at q
  by_cases c : xs.length < 4000
  · rw [if_pos c] at q
    have en1 := en.stp s1
    refine ⟨l, a, _, n, rfl, by rw [show v = .int a from ra], s1.hh _ _ hH, by rw [show scanBound = 4096 from rfl]; omega, ?_⟩
    refine hr _ σ F1 _ ω En (env_wr en1 hΓ hσ hl (a' := if a ∈ xs then xs else xs ++ [a]) ⟨l, rfl, hl, if decide (a ∈ xs) = true then n else n + 1, ?_, ?_⟩) (Post.imp q fun b z => EndOk.up z s1.ff)
    · rw [upd_same]
      congr 2
      funext j
      by_cases ca : a ∈ xs
      · by_cases cj : j = a
        · subst cj; simp [ca]
        · simp [ca, cj]
      · simp [ca]
    · by_cases ca : a ∈ xs
      · simp [ca]; exact hn
      · simp [ca]; exact hn
  · rw [if_neg c] at q
    exact q.elim
/-! in, not in -/
section
variable {e1 e2 : Expr} {m1 : Out Int} {m2 : Out (List Int)} {pos : Pos}
theorem v_inS {K : PySem.W.Frag} {w : World} : VOp K (rSIn w) tInt.rl (rSet w) tBool.rl (fun a as => pure (decide (a ∈ as))) := fun F H x y a b Q J s h1 ⟨p, e, n, hp, hn⟩ po => ⟨a, p, _, n, h1, e, hp, po _ F H (Stp.refl s) rfl⟩
theorem v_niS {K : PySem.W.Frag} {w : World} : VOp K (rSNotIn w) tInt.rl (rSet w) tBool.rl (fun a as => pure (!decide (a ∈ as))) := fun F H x y a b Q J s h1 ⟨p, e, n, hp, hn⟩ po => ⟨a, p, _, n, h1, e, hp, po _ F H (Stp.refl s) rfl⟩
theorem we_inS (h1 : WE X E B Γ e1 tInt.rl m1) (h2 : WE X E B Γ e2 (rSet X.w) m2) (hm : behindInMarks .In e2 = false := by with_unfolding_all rfl) : WE X E B Γ (.Compare e1 [.In] [e2] pos) tBool.rl (m1 >>= fun a => m2 >>= fun as => pure (decide (a ∈ as))) := we_cmp or_sin v_inS hm h1 h2
theorem wt_inS (h1 : WE X E B Γ e1 tInt.rl m1) (h2 : WE X E B Γ e2 (rSet X.w) m2) (hm : behindInMarks .In e2 = false := by with_unfolding_all rfl) : WT X E B Γ (.Compare e1 [.In] [e2] pos) (m1 >>= fun a => m2 >>= fun as => pure (decide (a ∈ as))) := wt_cmp or_sin v_inS hm h1 h2
theorem we_niS (h1 : WE X E B Γ e1 tInt.rl m1) (h2 : WE X E B Γ e2 (rSet X.w) m2) (hm : behindInMarks .NotIn e2 = false := by with_unfolding_all rfl) : WE X E B Γ (.Compare e1 [.NotIn] [e2] pos) tBool.rl (m1 >>= fun a => m2 >>= fun as => pure (!decide (a ∈ as))) := we_cmp or_snotin v_niS hm h1 h2
theorem wt_niS (h1 : WE X E B Γ e1 tInt.rl m1) (h2 : WE X E B Γ e2 (rSet X.w) m2) (hm : behindInMarks .NotIn e2 = false := by with_unfolding_all rfl) : WT X E B Γ (.Compare e1 [.NotIn] [e2] pos) (m1 >>= fun a => m2 >>= fun as => pure (!decide (a ∈ as))) := wt_cmp or_snotin v_niS hm h1 h2
end
end SL

set_option Elab.async false
set_option linter.all false
set_option maxRecDepth 100000
set_option maxHeartbeats 2000000
/-! SLk: sorted lists of tuples of ints, of any lengths. -/
namespace SL
open PySem PySem.Spec PyProof.Rows L2
/-! ### the order -/
def lexL : List Int → List Int → Bool
  | [], [] => false
  | [], _ :: _ => true
  | _ :: _, [] => false
  | x :: xs, y :: ys => if x = y then lexL xs ys else decide (x < y)
theorem lexL_irr : ∀ x : List Int, lexL x x = false
  | [] => rfl
  | x :: xs => by simp [lexL, lexL_irr xs]
theorem lexL_asym : ∀ {x y : List Int}, lexL x y = true → lexL y x = false
  | [], [], h => by simp [lexL] at h
  | [], _ :: _, _ => rfl
  | _ :: _, [], h => by simp [lexL] at h
  | x :: xs, y :: ys, h => by
    unfold lexL at h ⊢
    by_cases c : x = y
    · subst c
      rw [if_pos rfl] at h ⊢
      exact lexL_asym h
    · rw [if_neg c] at h
      rw [if_neg (Ne.symm c)]
      have := of_decide_eq_true h
      exact decide_eq_false (by omega)
theorem lexL_tr : ∀ {x y z : List Int}, lexL y x = false → lexL z y = false → lexL z x = false
  | [], [], [], _, _ => rfl
  | [], [], _ :: _, _, _ => rfl
  | [], _ :: _, [], h, h2 => by simp [lexL] at h2
  | [], _ :: _, _ :: _, _, _ => rfl
  | _ :: _, [], _, h, _ => by simp [lexL] at h
  | _ :: _, _ :: _, [], _, h => by simp [lexL] at h
  | x :: xs, y :: ys, z :: zs, h1, h2 => by
    unfold lexL at h1 h2 ⊢
    by_cases a : y = x
    · subst a
      rw [if_pos rfl] at h1
      by_cases b : z = y
      · subst b
        rw [if_pos rfl] at h2 ⊢
        exact lexL_tr h1 h2
      · rw [if_neg b] at h2 ⊢
        exact h2
    · rw [if_neg a] at h1
      have h1 := of_decide_eq_false h1
      by_cases b : z = y
      · subst b
        rw [if_neg a]
        exact decide_eq_false h1
      · rw [if_neg b] at h2
        have h2 := of_decide_eq_false h2
        rw [if_neg (by omega)]
        exact decide_eq_false (by omega)
theorem lexL_anti : ∀ {x y : List Int}, lexL x y = false → lexL y x = false → x = y
  | [], [], _, _ => rfl
  | [], _ :: _, h, _ => by simp [lexL] at h
  | _ :: _, [], _, h => by simp [lexL] at h
  | x :: xs, y :: ys, h1, h2 => by
    unfold lexL at h1 h2
    by_cases c : x = y
    · subst c
      rw [if_pos rfl] at h1 h2
      rw [lexL_anti h1 h2]
    · rw [if_neg c] at h1
      rw [if_neg (Ne.symm c)] at h2
      have h1 := of_decide_eq_false h1
      have h2 := of_decide_eq_false h2
      omega
theorem srt_uniq {α : Type} {le : α → α → Prop} (anti : ∀ a b, le a b → le b a → a = b) : ∀ {xs ys : List α}, xs.Perm ys → xs.Pairwise le → ys.Pairwise le → xs = ys
  | [], ys, p, _, _ => p.nil_eq
  | x :: xs, [], p, _, _ => absurd p.length_eq (by simp)
  | x :: xs, y :: ys, p, h1, h2 => by
    have hx : x ∈ y :: ys := p.mem_iff.mp (by simp)
    have hy : y ∈ x :: xs := p.mem_iff.mpr (by simp)
    have e : x = y := by
      rcases List.mem_cons.mp hx with h | h
      · exact h
      · rcases List.mem_cons.mp hy with g | g
        · exact g.symm
        · exact anti _ _ ((List.pairwise_cons.mp h1).1 y g) ((List.pairwise_cons.mp h2).1 x h)
    subst e
    rw [srt_uniq anti (List.Perm.cons_inv p) (List.pairwise_cons.mp h1).2 (List.pairwise_cons.mp h2).2]
def sortT (xs : List (List Int)) : List (List Int) := xs.mergeSort (fun a b => !lexL b a)
theorem sortT_perm (xs : List (List Int)) : (sortT xs).Perm xs := List.mergeSort_perm _ _
theorem sortT_sorted (xs : List (List Int)) : (sortT xs).Pairwise (fun a b => lexL b a = false) := by
  have h := List.pairwise_mergeSort (le := fun a b : List Int => !lexL b a) (fun a b c h1 h2 => by
    simp only [Bool.not_eq_true'] at *
    exact lexL_tr h1 h2) (fun a b => by
    cases c : lexL b a with
    | false => rfl
    | true => rw [lexL_asym c] <;> rfl) xs
  exact h.imp fun h => by simpa using h
theorem sortT_uniq {xs ys : List (List Int)} (p : ys.Perm xs) (h : ys.Pairwise (fun a b => lexL b a = false)) : ys = sortT xs :=
  srt_uniq (le := fun a b => lexL b a = false) (fun a b h1 h2 => lexL_anti h2 h1) (p.trans (sortT_perm xs).symm) h (sortT_sorted xs)
def sortTO (xs : List (List Int)) : Out (List (List Int)) := if ∀ x ∈ xs, x ≠ [] then pure (sortT xs) else .stuck

/-! ### the run -/
section
variable {prog : Program} {w : World} {A : Around} {E : Value → Shared → Prop} {s : Shared}
theorem lex_any {Q : Bool → Shared → Prop} {b : Bool} {us vs : List Value} {xs ys : List Int} (i : Nat) (hx : IntsAre us xs) (hy : IntsAre vs ys) (h : Q (lexL xs ys) s) : PySem.W.KatLex prog w A b (decide (xs.length < ys.length)) Q (us.zip vs) i s := by
  induction hx generalizing vs ys i with
  | nil =>
    cases hy with
    | nil => exact PySem.W.kat_nil h
    | cons q u hy => exact PySem.W.kat_nil (by simpa [lexL] using h)
  | @cons p t us xs hx ih =>
    cases hy with
    | nil => exact PySem.W.kat_nil (by simpa [lexL] using h)
    | @cons q u vs ys hy =>
      show PySem.W.KatLex prog w A b _ Q ((Value.int p t, Value.int q u) :: us.zip vs) i s
      refine PySem.W.kat_cons (wpAny_eqBool_int ?_)
      unfold lexL at h
      by_cases e : p = q
      · subst e
        rw [if_pos rfl] at h
        rw [beq_self_eq_true]
        have hl : decide ((p :: xs).length < (p :: ys).length) = decide (xs.length < ys.length) := by simp
        rw [hl]
        exact PySem.W.kat_yes (ih (i + 1) hy h)
      · rw [if_neg e] at h
        rw [show (p == q) = false from beq_eq_false_iff_ne.mpr e]
        exact PySem.W.kat_no (TS.oneLt_ints _ h)
theorem swo_lexL (k : Value → List Int) : SrtO.Swo fun v u => lexL (k v) (k u) := ⟨fun x y h => lexL_asym h, fun x y z h1 h2 => lexL_tr h1 h2⟩
theorem tup_cmp {vs : List Value} {k : Value → List Int} (hp : ∀ v ∈ vs, TS.TupInts s.heap v (k v)) : SrtO.Cmp prog w A s (tuples' true) (fun p => p.1 ∈ vs) (SrtO.lt2 fun v u => lexL (k v) (k u)) := by
  intro p q hm hm'
  have h1 := hp _ hm
  have h2 := hp _ hm'
  show wpAny (model prog w) A (keyLt' (tuples' true) p.1 q.1) (fun r s' => s' = s ∧ r = lexL (k p.1) (k q.1)) (fun _ _ => False) s
  generalize k p.1 = x at h1 ⊢
  generalize k q.1 = y at h2 ⊢
  obtain ⟨a, xs, e1, ⟨o, ho, hc, n, hdt⟩, i⟩ := h1
  obtain ⟨a', ys, e2, ⟨o', ho', hc', n', hdt'⟩, i'⟩ := h2
  rw [e1, e2]
  refine PySem.W.kat_lt ho hdt ho' hdt' ?_
  have l1 := i.length
  have l2 := i'.length
  rw [Array.length_toList] at l1 l2
  rw [l1, l2]
  exact lex_any 0 i i' ⟨rfl, rfl⟩
theorem firsts_any {h : Heap} {k : Value → List Int} : ∀ vs : List Value, (∀ v ∈ vs, TS.TupInts h v (k v) ∧ k v ≠ []) → ∃ fs, PySem.W.KatTups h vs fs ∧ fs.length = vs.length ∧ ∀ f, f ∈ fs → ∃ n t, f = Value.int n t
  | [], _ => ⟨[], PySem.W.KatTups.nil, rfl, fun f hf => by simp at hf⟩
  | v :: vs, x => by
    obtain ⟨fs, hk, hl, hi⟩ := firsts_any vs fun u hu => x u (List.mem_cons_of_mem _ hu)
    obtain ⟨⟨a, xs, e, ⟨o, ho, hc, n, hdt⟩, i⟩, hn⟩ := x v (List.mem_cons_self ..)
    cases q : xs.toList with
    | nil =>
      rw [q] at i
      have l := i.length
      rw [List.length_nil] at l
      exact absurd (List.length_eq_zero_iff.mp l.symm) hn
    | cons y ys =>
      obtain ⟨m, t, hy⟩ := i.all y (by rw [q]; exact List.mem_cons_self ..)
      rw [e]
      refine ⟨y :: fs, PySem.W.KatTups.cons ho hc hdt ?_ hk, by simp [hl], ?_⟩
      · have z := congrArg (fun l : List Value => l[0]?) q
        simpa using z
      · intro f hf
        rcases List.mem_cons.mp hf with rfl | hf
        · exact ⟨m, t, hy⟩
        · exact hi f hf
theorem sorted_any {l : Addr} {vs : List Value} {k : Value → List Int} {Q : Value → Shared → Prop} (hl : s.heap.IsList l vs.toArray) (hz : vs.length ≤ sizeLine) (hp : ∀ v ∈ vs, TS.TupInts s.heap v (k v) ∧ k v ≠ [])
    (h : ∀ out : List Value, SrtO.Srtd (fun v u => lexL (k v) (k u)) out → out.Perm vs → Q (.ref (s.heap.objs.size + 1)) { s with heap := sortedAll s.heap vs out.toArray }) :
    wpAny (model prog w) A (call (.builtin "sorted") [.ref l]) Q E s := by
  refine SrtO.sorted_ord (swo_lexL k) hl hz (fun h2 h₁ a ha kk h' keep => ?_) fun out hs hb => h out hs hb.perm
  have hp' : ∀ v ∈ vs, TS.TupInts h' v (k v) ∧ k v ≠ [] := fun v hm => ⟨(hp v hm).1.keeps fun b o e c => keep b o (fun z => (kk b o e).1 z) ((kk b o e).2), (hp v hm).2⟩
  obtain ⟨fs, h1, h2', h3⟩ := firsts_any vs hp'
  refine ⟨tuples' true, fun Q E hq => ?_, tup_cmp fun v hm => (hp' v hm).1⟩
  refine PySem.W.kat_kind (T := .type "int") h1 (by omega) (fun f hm => ?_) (by rfl) ?_
  · obtain ⟨x, t, rfl⟩ := h3 f hm
    exact PySem.W.Looks.now
  · have e : (Value.type "int" != Value.type "tuple") = true := by first | decide +kernel | rfl | decide
    rw [e]
    exact hq
end
section
variable {X : Cx}
def rSortTup (K : PySem.W.Frag) : List V → Hp → VK → Prop := fun vs H Q => ∃ (a : Addr) (xs : List V) (nss : List (List Int)) (R : V → List Int → Prop), vs = [V.ref a] ∧ SqL K H a xs ∧ (∀ v ns, R v ns → TupI K H v ns) ∧ Fa2 R xs nss ∧ (∀ ns ∈ nss, ns ≠ []) ∧
  ∀ (ys : List V) (p : Addr), Fa2 R ys (sortT nss) → H p = none → Q (.ref p) (upd H p (.lst ys))
theorem tups_vals {pins : List (Addr × Obj)} {σ : L2.St} {H : Hp} {s : Shared} (I : Inv X pins σ H s) {R : V → List Int → Prop} (hR : ∀ v ns, R v ns → TupI X.K H v ns) : ∀ {xs : List V} {its : List Value} {nss : List (List Int)}, Vals xs its → Fa2 R xs nss →
    (∀ u ∈ its, ∃ ns t, u = Value.ref t ∧ R (.ref t) ns ∧ ns ∈ nss ∧ TS.TupInts s.heap u ns) ∧ its.map (TS.intsOf s.heap) = nss
  | _, _, _, .nil, .nil => ⟨fun u hu => by simp at hu, rfl⟩
  | x :: xs, u0 :: its, ns :: nss, .cons rv t, .cons r f => by
    obtain ⟨h1, h2⟩ := tups_vals I hR t f
    obtain ⟨t', e, ht⟩ := hR _ _ r
    subst e
    have e2 : u0 = Value.ref t' := rv
    subst e2
    have hi := tupI_raw I ht
    refine ⟨fun u hu => ?_, by rw [List.map_cons, h2, hi.ints]⟩
    rcases List.mem_cons.mp hu with e | hu
    · subst e
      exact ⟨ns, t', rfl, r, by simp, hi⟩
    · obtain ⟨ns', t2, z1, z2, z3, z4⟩ := h1 u hu
      exact ⟨ns', t2, z1, z2, by simp [z3], z4⟩
theorem bkV_fa2 {R : V → List Int → Prop} {g : Value → List Int} : ∀ {us : List Value}, (∀ u ∈ us, R (bkV u) (g u)) → Fa2 R (us.map bkV) (us.map g)
  | [], _ => .nil
  | u :: us, h => .cons (h u List.mem_cons_self) (bkV_fa2 fun y hy => h y (List.mem_cons_of_mem _ hy))
theorem cr_sortTup : CallR X (.builtin "sorted") (rSortTup X.K) := by
  intro pins s σ H vs us Q I r h
  obtain ⟨a, xs, nss, R, rfl, hs, hR, hf, hne, q⟩ := h
  obtain ⟨its, rv, hl, hz⟩ := I.list hs
  rw [Vals.ref1 r]
  obtain ⟨hv, hm⟩ := tups_vals I hR rv hf
  refine sorted_any (k := TS.intsOf s.heap) hl.isList (by rw [← rv.length]; exact hz) (fun v hm => ?_) fun out h1 h2 => ?_
  · obtain ⟨ns, t, _, _, m, ht⟩ := hv v hm
    rw [ht.ints]
    exact ⟨ht, hne ns m⟩
  · obtain ⟨ep, he'⟩ := PyProof.Rows.sortedAll_at s.heap its out.toArray
    have h3 := fun u (hu : u ∈ out) => hv u (h2.mem_iff.mp hu)
    have hlen : (out.map bkV).length ≤ sizeLine := by
      rw [List.length_map, h2.length_eq, ← rv.length]
      exact hz
    have es : out.map (TS.intsOf s.heap) = sortT nss := by
      refine sortT_uniq ?_ ?_
      · rw [← hm]
        exact h2.map _
      · rw [List.pairwise_map]
        exact h1
    have hfa : Fa2 R (out.map bkV) (sortT nss) := by
      rw [← es]
      refine bkV_fa2 fun u hu => ?_
      obtain ⟨ns, t, e, ht, _, hr⟩ := h3 u hu
      rw [hr.ints, e]
      exact ht
    exact ⟨.ref _, upd H (s.heap.objs.size + 1) (.lst (out.map bkV)), I.laid (t' := s.toks) (fun _ _ => PyProof.Rows.sortedAll_old) (Nat.le_succ _) ⟨hlen, out, ep, bkV_vals (fun u hu => let ⟨_, t, e, _⟩ := h3 u hu; ⟨t, e⟩), he'⟩, rfl, q _ _ hfa (I.hok.fresh (Nat.le_succ _))⟩
end
variable {X : Cx} {N : List Str} {sc : Scp} {k : Nat} {E : XK} {B : Bs} {Γ : List Slot}
theorem tupI_of {K : PySem.W.Frag} {F H : Hp} {v : V} {ns : List Int} (s : Same F H) (h : (tTup tInt).rel K F v ns) : TupI K H v ns := by
  obtain ⟨p, vs, e, q, r⟩ := h
  have := fa2_int r
  subst this
  exact ⟨p, e, seqT s q⟩
/-- sorted(xs) of tuples of ints -/
theorem wo_sortTup (C : XC X N sc k E) (Z : Fre X.mg) {e : Expr} {m : Out (List (List Int))} {p pos : Pos} (h : WE X E B Γ e (rLst (tTup tInt)) m) (hg : GlN sc "sorted" := by rfl) (he : starEach (e :: []) X.env = (false, eval e X.env) :: starEach [] X.env := by rfl) :
    WO X E B Γ (.Call (.Name "sorted" p) [e] [] pos) (oLst (tTup tInt)) (m >>= sortTO) := by
  refine cbO (R := rLst (tTup tInt)) C cr_sortTup Z.sorted (by decide +kernel) (fun F H x a Q J s hx po => ?_) h hg (he := he)
  obtain ⟨p, vs, e, q, r⟩ := hx
  unfold sortTO at po
  by_cases c : ∀ x ∈ a, x ≠ []
  · rw [if_pos c] at po
    exact ⟨p, vs, a, (tTup tInt).rel X.K F, by rw [e], q, fun v ns h => tupI_of s h, r, c, fun ys d hy hd => new_lst s hd hy po⟩
  · rw [if_neg c] at po
    exact po.elim
end SL

set_option Elab.async false
set_option linter.all false
set_option maxRecDepth 100000
set_option maxHeartbeats 2000000
/-! SLl: == of whole data; isinstance; index, count. -/
namespace SL
open PySem PySem.Spec PyProof.Rows L2
variable {X : Cx} {N : List Str} {sc : Scp} {k : Nat} {E : XK} {B : Bs} {Γ : List Slot}
/-! ### data as PyData -/
structure Code (α : Type) [DecidableEq α] where
  d : α → PyData
  n : Nat
  lay : ∀ a, (d a).canLay0 = true
  dep : ∀ a, (d a).depth ≤ n
  eqv : ∀ a b, PyData.eqv (d a) (d b) = decide (a = b)
def cInt : Code Int := ⟨.int, 0, fun _ => by simp [PyData.canLay0], fun _ => by simp [PyData.depth], fun a b => by
  simp only [PyData.eqv]
  by_cases h : a = b <;> simp [h]⟩
def cBool : Code Bool := ⟨.bool, 0, fun _ => by simp [PyData.canLay0], fun _ => by simp [PyData.depth], fun a b => by
  simp only [PyData.eqv]
  by_cases h : a = b <;> simp [h]⟩
theorem lay_all {α : Type} [DecidableEq α] (c : Code α) : ∀ xs : List α, PyData.canLayAll0 (xs.map c.d) = true
  | [] => by simp [PyData.canLayAll0]
  | x :: xs => by simp [PyData.canLayAll0, c.lay x, lay_all c xs]
theorem dep_all {α : Type} [DecidableEq α] (c : Code α) : ∀ xs : List α, PyData.depthAll (xs.map c.d) ≤ c.n
  | [] => by simp [PyData.depthAll]
  | x :: xs => by
    have h1 := c.dep x
    have h2 := dep_all c xs
    simp only [List.map_cons, PyData.depthAll]
    omega
theorem eqv_all {α : Type} [DecidableEq α] (c : Code α) : ∀ xs ys : List α, PyData.eqvAll (xs.map c.d) (ys.map c.d) = decide (xs = ys)
  | [], [] => by simp [PyData.eqvAll]
  | [], _ :: _ => by simp [PyData.eqvAll]
  | _ :: _, [] => by simp [PyData.eqvAll]
  | x :: xs, y :: ys => by
    simp only [List.map_cons, PyData.eqvAll, c.eqv, eqv_all c xs ys, List.cons.injEq]
    by_cases h : x = y <;> simp [h]
def cLst {α : Type} [DecidableEq α] (c : Code α) : Code (List α) := ⟨fun xs => .list (xs.map c.d), c.n + 1, fun xs => by simp [PyData.canLay0, lay_all], fun xs => by
  have := dep_all c xs
  simp only [PyData.depth]
  omega, fun a b => by simp only [PyData.eqv, eqv_all]⟩
def cTup {α : Type} [DecidableEq α] (c : Code α) : Code (List α) := ⟨fun xs => .tuple (xs.map c.d), c.n + 1, fun xs => by simp [PyData.canLay0, lay_all], fun xs => by
  have := dep_all c xs
  simp only [PyData.depth]
  omega, fun a b => by simp only [PyData.eqv, eqv_all]⟩
def cT2 {α β : Type} [DecidableEq α] [DecidableEq β] (c : Code α) (e : Code β) : Code (α × β) := ⟨fun x => .tuple [c.d x.1, e.d x.2], max c.n e.n + 1, fun x => by simp [PyData.canLay0, PyData.canLayAll0, c.lay, e.lay], fun x => by
  have h1 := c.dep x.1
  have h2 := e.dep x.2
  simp only [PyData.depth, PyData.depthAll]
  omega, fun a b => by
  obtain ⟨a1, a2⟩ := a
  obtain ⟨b1, b2⟩ := b
  simp only [PyData.eqv, PyData.eqvAll, c.eqv, e.eqv, Prod.mk.injEq]
  by_cases h : a1 = b1 <;> simp [h]⟩
def cT3 {α β γ : Type} [DecidableEq α] [DecidableEq β] [DecidableEq γ] (c : Code α) (e : Code β) (f : Code γ) : Code (α × β × γ) := ⟨fun x => .tuple [c.d x.1, e.d x.2.1, f.d x.2.2], max (max c.n e.n) f.n + 1, fun x => by simp [PyData.canLay0, PyData.canLayAll0, c.lay, e.lay, f.lay], fun x => by
  have h1 := c.dep x.1
  have h2 := e.dep x.2.1
  have h3 := f.dep x.2.2
  simp only [PyData.depth, PyData.depthAll]
  omega, fun a b => by
  obtain ⟨a1, a2, a3⟩ := a
  obtain ⟨b1, b2, b3⟩ := b
  simp only [PyData.eqv, PyData.eqvAll, c.eqv, e.eqv, f.eqv, Prod.mk.injEq]
  by_cases h : a1 = b1 <;> by_cases h2 : a2 = b2 <;> simp [h, h2]⟩
def cL2 {α β : Type} [DecidableEq α] [DecidableEq β] (c : Code α) (e : Code β) : Code (α × β) := ⟨fun x => .list [c.d x.1, e.d x.2], max c.n e.n + 1, fun x => by simp [PyData.canLay0, PyData.canLayAll0, c.lay, e.lay], fun x => by
  have h1 := c.dep x.1
  have h2 := e.dep x.2
  simp only [PyData.depth, PyData.depthAll]
  omega, fun a b => by
  obtain ⟨a1, a2⟩ := a
  obtain ⟨b1, b2⟩ := b
  simp only [PyData.eqv, PyData.eqvAll, c.eqv, e.eqv, Prod.mk.injEq]
  by_cases h : a1 = b1 <;> simp [h]⟩
def cL3 {α β γ : Type} [DecidableEq α] [DecidableEq β] [DecidableEq γ] (c : Code α) (e : Code β) (f : Code γ) : Code (α × β × γ) := ⟨fun x => .list [c.d x.1, e.d x.2.1, f.d x.2.2], max (max c.n e.n) f.n + 1, fun x => by simp [PyData.canLay0, PyData.canLayAll0, c.lay, e.lay, f.lay], fun x => by
  have h1 := c.dep x.1
  have h2 := e.dep x.2.1
  have h3 := f.dep x.2.2
  simp only [PyData.depth, PyData.depthAll]
  omega, fun a b => by
  obtain ⟨a1, a2, a3⟩ := a
  obtain ⟨b1, b2, b3⟩ := b
  simp only [PyData.eqv, PyData.eqvAll, c.eqv, e.eqv, f.eqv, Prod.mk.injEq]
  by_cases h : a1 = b1 <;> by_cases h2 : a2 = b2 <;> simp [h, h2]⟩
/-- a type's data by a code -/
def DpT {α : Type} (T : Ty α) (d : α → PyData) : Prop := ∀ K F v a, T.rel K F v a → Dp K F v (d a)
theorem dp_int : DpT tInt cInt.d := fun K F v a h => by
  rw [show v = .int a from h]
  exact .int a
theorem dp_bool : DpT tBool cBool.d := fun K F v a h => by
  rw [show v = .bl a from h]
  exact .bl a
theorem dp_all {α : Type} {T : Ty α} {d : α → PyData} (h : DpT T d) {K : PySem.W.Frag} {F F' : Hp} (s : Same F F') {vs : List V} {as : List α} (r : Fa2 (T.rel K F) vs as) : DpAll K F' vs (as.map d) := by
  induction r with
  | nil => exact .nil
  | cons q _ ih => exact .cons (dp_mono s (h _ _ _ _ q)) ih
theorem dp_lst {α : Type} {T : Ty α} {d : α → PyData} (h : DpT T d) : DpT (tLst T) (fun xs => .list (xs.map d)) := fun K F v a ⟨p, vs, e, q, r⟩ => by
  rw [e]
  exact .lst (SqL.of q) (dp_all h (Same.refl F) r)
theorem dp_tup {α : Type} {T : Ty α} {d : α → PyData} (h : DpT T d) : DpT (tTup T) (fun xs => .tuple (xs.map d)) := fun K F v a ⟨p, vs, e, q, r⟩ => by
  rw [e]
  exact .tup q (dp_all h (Same.refl F) r)
section
variable {α β γ : Type} {T : Ty α} {U : Ty β} {W : Ty γ} {c : α → PyData} {d : β → PyData} {f : γ → PyData}
theorem dp_t2 (h1 : DpT T c) (h2 : DpT U d) : DpT (tT2 T U) (fun x => .tuple [c x.1, d x.2]) := fun K F v a ⟨p, v1, v2, e, q, r1, r2⟩ => by
  rw [e]
  exact .tup q (.cons (h1 _ _ _ _ r1) (.cons (h2 _ _ _ _ r2) .nil))
theorem dp_t3 (h1 : DpT T c) (h2 : DpT U d) (h3 : DpT W f) : DpT (tT3 T U W) (fun x => .tuple [c x.1, d x.2.1, f x.2.2]) := fun K F v a ⟨p, v1, v2, v3, e, q, r1, r2, r3⟩ => by
  rw [e]
  exact .tup q (.cons (h1 _ _ _ _ r1) (.cons (h2 _ _ _ _ r2) (.cons (h3 _ _ _ _ r3) .nil)))
theorem dp_l2 (h1 : DpT T c) (h2 : DpT U d) : DpT (tL2 T U) (fun x => .list [c x.1, d x.2]) := fun K F v a ⟨p, v1, v2, e, q, r1, r2⟩ => by
  rw [e]
  exact .lst (SqL.of q) (.cons (h1 _ _ _ _ r1) (.cons (h2 _ _ _ _ r2) .nil))
theorem dp_l3 (h1 : DpT T c) (h2 : DpT U d) (h3 : DpT W f) : DpT (tL3 T U W) (fun x => .list [c x.1, d x.2.1, f x.2.2]) := fun K F v a ⟨p, v1, v2, v3, e, q, r1, r2, r3⟩ => by
  rw [e]
  exact .lst (SqL.of q) (.cons (h1 _ _ _ _ r1) (.cons (h2 _ _ _ _ r2) (.cons (h3 _ _ _ _ r3) .nil)))
end
/-- .. by both heaps -/
def DpR {α : Type} (R : Rl α) (d : α → PyData) : Prop := ∀ K F H v a, Same F H → R.rel K F H v a → Dp K H v (d a)
theorem DpT.r {α : Type} {T : Ty α} {d : α → PyData} (h : DpT T d) : DpR T.rl d := fun K F H v a s r => dp_mono s (h _ _ _ _ r)
theorem dp_rl {α : Type} {T : Ty α} {d : α → PyData} (h : DpT T d) : DpR (rLst T) (fun xs => .list (xs.map d)) := fun K F H v a s ⟨p, vs, e, q, r⟩ => by
  rw [e]
  exact .lst q (dp_all h s r)
section
variable {e1 e2 : Expr} {α : Type} [DecidableEq α] {R S : Rl α} {m1 m2 : Out α} {pos : Pos}
theorem shp (c : Code α) (h : c.n ≤ 64) (a : α) : SeqAt.shaped (c.d a) = true := by
  unfold SeqAt.shaped
  rw [c.lay, Bool.true_and, decide_eq_true_eq]
  exact Nat.le_trans (c.dep a) h
theorem v_eqD {K : PySem.W.Frag} (c : Code α) (hn : c.n ≤ 64) (r1 : DpR R c.d) (r2 : DpR S c.d) : VOp K (rEqD K) R S tBool.rl (fun a b => pure (decide (a = b))) := fun F H x y a b Q J s h1 h2 p =>
  ⟨c.d a, c.d b, r1 _ _ _ _ _ s h1, r2 _ _ _ _ _ s h2, shp c hn a, shp c hn b, by rw [c.eqv]; exact p _ F H (Stp.refl s) rfl⟩
theorem v_neD {K : PySem.W.Frag} (c : Code α) (hn : c.n ≤ 64) (r1 : DpR R c.d) (r2 : DpR S c.d) : VOp K (rNeD K) R S tBool.rl (fun a b => pure (!decide (a = b))) := fun F H x y a b Q J s h1 h2 p =>
  ⟨c.d a, c.d b, r1 _ _ _ _ _ s h1, r2 _ _ _ _ _ s h2, shp c hn a, shp c hn b, by rw [c.eqv]; exact p _ F H (Stp.refl s) rfl⟩
theorem hu64 (C : XC X N sc k E) : X.A.units + 64 < cLine := by have := C.room.un; omega
theorem we_eqD (C : XC X N sc k E) (c : Code α) (r1 : DpR R c.d) (r2 : DpR S c.d) (h1 : WE X E B Γ e1 R m1) (h2 : WE X E B Γ e2 S m2) (hn : c.n ≤ 64 := by decide) : WE X E B Γ (.Compare e1 [.Eq] [e2] pos) tBool.rl (m1 >>= fun a => m2 >>= fun b => pure (decide (a = b))) := we_cmp (op_eqD (hu64 C)) (v_eqD c hn r1 r2) (nomark _) h1 h2
theorem wt_eqD (C : XC X N sc k E) (c : Code α) (r1 : DpR R c.d) (r2 : DpR S c.d) (h1 : WE X E B Γ e1 R m1) (h2 : WE X E B Γ e2 S m2) (hn : c.n ≤ 64 := by decide) : WT X E B Γ (.Compare e1 [.Eq] [e2] pos) (m1 >>= fun a => m2 >>= fun b => pure (decide (a = b))) := wt_cmp (op_eqD (hu64 C)) (v_eqD c hn r1 r2) (nomark _) h1 h2
theorem we_neD (C : XC X N sc k E) (c : Code α) (r1 : DpR R c.d) (r2 : DpR S c.d) (h1 : WE X E B Γ e1 R m1) (h2 : WE X E B Γ e2 S m2) (hn : c.n ≤ 64 := by decide) : WE X E B Γ (.Compare e1 [.NotEq] [e2] pos) tBool.rl (m1 >>= fun a => m2 >>= fun b => pure (!decide (a = b))) := we_cmp (op_neD (hu64 C)) (v_neD c hn r1 r2) (nomark _) h1 h2
theorem wt_neD (C : XC X N sc k E) (c : Code α) (r1 : DpR R c.d) (r2 : DpR S c.d) (h1 : WE X E B Γ e1 R m1) (h2 : WE X E B Γ e2 S m2) (hn : c.n ≤ 64 := by decide) : WT X E B Γ (.Compare e1 [.NotEq] [e2] pos) (m1 >>= fun a => m2 >>= fun b => pure (!decide (a = b))) := wt_cmp (op_neD (hu64 C)) (v_neD c hn r1 r2) (nomark _) h1 h2
end

/-! ### isinstance -/
/-- things of this kind are of the built-in type t -/
def TyR {α : Type} (R : Rl α) (t : α → String) : Prop := ∀ K F H v a, Same F H → R.rel K F H v a → TyX K H v (.type (t a))
theorem ty_int : TyR tInt.rl fun _ => "int" := fun K F H v a s h => by rw [show v = .int a from h]; exact .base (.int a)
theorem ty_bool : TyR tBool.rl fun _ => "bool" := fun K F H v a s h => by rw [show v = .bl a from h]; exact .base (.bl a)
theorem ty_str : TyR tStr.rl fun _ => "str" := fun K F H v a s h => by rw [show v = .str a from h]; exact .base (.str a)
theorem tyx_tup {K : PySem.W.Frag} {H : Hp} {p : Addr} {vs : List V} (h : SqT K H p vs) : TyX K H (.ref p) (.type "tuple") := by
  rcases h with (h | ⟨o, h⟩) | ⟨o, its, n, hk, hc, _⟩
  · exact .base (.tup h)
  · exact .fTuple h
  · exact .kTuple hk hc
theorem tyx_lst {K : PySem.W.Frag} {H : Hp} {p : Addr} {vs : List V} (h : SqL K H p vs) : TyX K H (.ref p) (.type "list") := by
  rcases h with (h | ⟨o, h⟩) | ⟨o, its, n, hk, hc, _⟩
  · exact .base (.lst h)
  · exact .base (.frz h)
  · exact .kList hk hc
theorem ty_tup {α : Type} {T : Ty α} : TyR (tTup T).rl fun _ => "tuple" := fun K F H v a s ⟨p, vs, e, q, r⟩ => by rw [e]; exact tyx_tup (seqT s q)
theorem ty_lst {α : Type} {T : Ty α} : TyR (tLst T).rl fun _ => "list" := fun K F H v a s ⟨p, vs, e, q, r⟩ => by rw [e]; exact tyx_lst (SqL.of (s _ _ q))
theorem ty_t2 {α β : Type} {T : Ty α} {U : Ty β} : TyR (tT2 T U).rl fun _ => "tuple" := fun K F H v a s ⟨p, v1, v2, e, q, r⟩ => by rw [e]; exact tyx_tup (seqT s q)
theorem ty_t3 {α β γ : Type} {T : Ty α} {U : Ty β} {W : Ty γ} : TyR (tT3 T U W).rl fun _ => "tuple" := fun K F H v a s ⟨p, v1, v2, v3, e, q, r⟩ => by rw [e]; exact tyx_tup (seqT s q)
theorem ty_t1 {α : Type} {T : Ty α} : TyR (tT1 T).rl fun _ => "tuple" := fun K F H v a s ⟨p, v1, e, q, r⟩ => by rw [e]; exact tyx_tup (seqT s q)
def tyD : PyData → String
  | .none => "NoneType" | .bool _ => "bool" | .int _ => "int" | .str _ => "str" | .list _ => "list" | .tuple _ => "tuple" | .dict _ => "dict"
theorem ty_D : TyR tD.rl tyD := fun K F H v a s h => by
  have h : Dp K F v a := h
  cases h with
  | non => exact .base .non
  | bl b => exact .base (.bl b)
  | int b => exact .base (.int b)
  | str b => exact .base (.str b)
  | lst q r => exact tyx_lst (s.seq q)
  | tup q r => exact tyx_tup (seqT s q)
/-- isinstance(e, c), c a built-in type -/
theorem we_isi (C : XC X N sc k E) (Z : Fre X.mg) {e : Expr} {α : Type} {R : Rl α} {m : Out α} {c : Str} {cn : String} {p p2 pos : Pos} {t : α → String} (b : α → Bool) (ty : TyR R t) (hb : ∀ a, kitB (t a) cn = some (b a)) (h : WE X E B Γ e R m)
    (hc : X.mg c = none) (hv : bootBuiltins c = some (.type cn)) (hg : GlN sc "isinstance" := by rfl) (hg2 : GlN sc c := by rfl) (hn : c ≠ "__name__" := by decide) (hd : (c == ("__debug__" : Str)) = false := by decide)
    (he : starEach (e :: .Name c p2 :: []) X.env = (false, eval e X.env) :: starEach (.Name c p2 :: []) X.env := by rfl) (he2 : starEach (.Name c p2 :: []) X.env = (false, eval (.Name c p2) X.env) :: starEach [] X.env := by rfl)
    (hpl : (backTo pos (starEach (.Name c p2 :: []) X.env)).any (·.1) = false := by rfl) :
    WE X E B Γ (.Call (.Name "isinstance" p) [e, .Name c p2] [] pos) tBool.rl (m >>= fun a => pure (b a)) := fun σ F H ω Q en q =>
  ⟨_, pe_callB call_isi (gl_ C hg) Z.isinstance (by decide +kernel) (pa_cons pe_s (pa_cons (pe_bltn (v := .ty cn) (gl_ C hg2) hc hv rfl hn hd) pa_nil he2) he) (he := he) (hpl := hpl),
    h σ F H ω _ en (q.bind.imp fun a q v F' H' s rv => ⟨v, .ty cn, .type (t a), .type cn, b a, rfl, .ty cn, ty _ _ _ _ _ s.fh rv, kit_ty (hb a), q _ F' H' s rfl⟩)⟩
/-- isinstance(e, (c1, c2)) -/
theorem we_isi2 (C : XC X N sc k E) (Z : Fre X.mg) {e : Expr} {α : Type} {R : Rl α} {m : Out α} {c d : Str} {cn dn : String} {j : Nat} {p p2 p3 p4 pos : Pos} {t : α → String} (b b2 : α → Bool) (ty : TyR R t) (hb : ∀ a, kitB (t a) cn = some (b a)) (hb2 : ∀ a, kitB (t a) dn = some (b2 a)) (h : WE X E B Γ e R m)
    (hc : X.mg c = none) (hv : bootBuiltins c = some (.type cn)) (hc2 : X.mg d = none) (hv2 : bootBuiltins d = some (.type dn)) (hg : GlN sc "isinstance" := by rfl) (hg2 : GlN sc c := by rfl) (hg3 : GlN sc d := by rfl) (hn : c ≠ "__name__" := by decide) (hd : (c == ("__debug__" : Str)) = false := by decide)
    (hn2 : d ≠ "__name__" := by decide) (hd2 : (d == ("__debug__" : Str)) = false := by decide)
    (he : starEach (e :: .Tuple [.Name c p2, .Name d p3] j p4 :: []) X.env = (false, eval e X.env) :: starEach (.Tuple [.Name c p2, .Name d p3] j p4 :: []) X.env := by rfl) (he2 : starEach (.Tuple [.Name c p2, .Name d p3] j p4 :: []) X.env = (false, eval (.Tuple [.Name c p2, .Name d p3] j p4) X.env) :: starEach [] X.env := by rfl)
    (hpl : (backTo pos (starEach (.Tuple [.Name c p2, .Name d p3] j p4 :: []) X.env)).any (·.1) = false := by rfl)
    (ht : starEach (.Name c p2 :: .Name d p3 :: []) X.env = (false, eval (.Name c p2) X.env) :: starEach (.Name d p3 :: []) X.env := by rfl) (ht2 : starEach (.Name d p3 :: []) X.env = (false, eval (.Name d p3) X.env) :: starEach [] X.env := by rfl) :
    WE X E B Γ (.Call (.Name "isinstance" p) [e, .Tuple [.Name c p2, .Name d p3] j p4] [] pos) tBool.rl (m >>= fun a => pure (b a || b2 a)) := fun σ F H ω Q en q =>
  ⟨_, pe_callB call_isiT (gl_ C hg) Z.isinstance (by decide +kernel) (pa_cons pe_s (pa_cons (pe_tup (pa_cons (pe_bltn (v := .ty cn) (gl_ C hg2) hc hv rfl hn hd) (pa_cons (pe_bltn (v := .ty dn) (gl_ C hg3) hc2 hv2 rfl hn2 hd2) pa_nil ht2) ht)) pa_nil he2) he) (he := he) (hpl := hpl),
    h σ F H ω _ en (q.bind.imp fun a q v F' H' s rv => ⟨le_line (by simp), fun tp htp => by
      have s2 := Stp.newH (o := .tup [.ty cn, .ty dn]) s.fh htp
      refine ⟨v, tp, [.ty cn, .ty dn], .type (t a), [.type cn, .type dn], b a || b2 a, rfl, upd_same, .cons (.ty cn) (.cons (.ty dn) .nil), ty _ _ _ _ _ s2.fh (R.mono s2 rv), ?_, q _ F' _ (s.trans s2) rfl⟩
      refine kitAny_cons (kit_ty (hb a)) (fun e => ?_) (fun e => by rw [e]; rfl)
      rw [e, Bool.false_or]
      exact kitAny_cons (kit_ty (hb2 a)) (fun e => by rw [e]; rfl) (fun e => e)⟩)⟩
end SL

set_option Elab.async false
set_option linter.all false
set_option maxRecDepth 100000
set_option maxHeartbeats 2000000
/-! SLm: index; comprehensions of two clauses. -/
namespace SL
open PySem PySem.Spec PyProof.Rows L2
variable {X : Cx} {N : List Str} {sc : Scp} {k : Nat} {E : XK} {B : Bs} {Γ : List Slot}
/-! ### xs.index(e) -/
def indexO {α : Type} [DecidableEq α] (xs : List α) (x : α) : Out Int := if x ∈ xs then pure ((xs.findIdx (fun y => decide (y = x)) : Nat) : Int) else .stuck
theorem fa2_find {K : PySem.W.Frag} {F : Hp} {α : Type} [DecidableEq α] {T : Ty α} (q : EqF T) {y : V} {x : α} (hy : T.rel K F y x) : ∀ {vs : List V} {as : List α}, Fa2 (T.rel K F) vs as → x ∈ as →
    ∃ z, vs[as.findIdx (fun a => decide (a = x))]? = some z ∧ eqV z y = true ∧ ∀ (m : Nat) (z' : V), m < as.findIdx (fun a => decide (a = x)) → vs[m]? = some z' → eqV z' y = false
  | _, _, .nil, h => by simp at h
  | v :: vs, a :: as, .cons r t, h => by
    have e := (q K F y v x a hy r).2
    by_cases c : a = x
    · subst c
      refine ⟨v, by simp [List.findIdx_cons], by rw [e]; simp, fun m z' hm hz => ?_⟩
      simp [List.findIdx_cons] at hm
    · have h2 : x ∈ as := by
        rcases List.mem_cons.mp h with z | z
        · exact absurd z.symm c
        · exact z
      obtain ⟨z, h3, h4, h5⟩ := fa2_find q hy t h2
      have ei : (a :: as).findIdx (fun b => decide (b = x)) = as.findIdx (fun b => decide (b = x)) + 1 := by
        rw [List.findIdx_cons]
        simp [c]
      rw [ei]
      refine ⟨z, by simpa using h3, h4, fun m z' hm hz => ?_⟩
      cases m with
      | zero =>
        simp at hz
        subst hz
        rw [e]
        exact decide_eq_false (fun z => c z.symm)
      | succ m => exact h5 m z' (by omega) (by simpa using hz)
theorem we_indexL (C : XC X N sc k E) {o e : Expr} {α : Type} [DecidableEq α] {T : Ty α} {m : Out (List α)} {m2 : Out α} {p2 p3 : Pos} (q : EqF T) (h : WE X E B Γ o (rLst T) m) (h2 : WE X E B Γ e T.rl m2)
    (hbase : attributeBase o "index" X.env (eval o X.env) = eval o X.env := by rfl)
    (hfew : ((backTo p3 (starEach (e :: []) X.env)).all (fun x => !x.1) && (backToKw p3 (keywordEach [] X.env)).all (fun x => x.1.isSome) && decide ((e :: []).length + ([] : List Keyword).length + (if ([] : List Keyword).isEmpty then 0 else 1) < 30)) = true := by rfl)
    (hline : (p2.endLine == p3.line) = true := by rfl) (hs : starEach (e :: []) X.env = (false, eval e X.env) :: starEach [] X.env := by rfl) :
    WE X E B Γ (.Call (.Attribute o "index" p2) [e] [] p3) tInt.rl (m >>= fun a => m2 >>= fun b => indexO a b) := fun σ F H ω Q en po => by
  refine ⟨_, pe_bm PySem.F.plainAttrs_list PySem.F.slot_list_index PySem.F.type_list_index mt_index pe_s (pa_cons pe_s pa_nil hs) hbase hfew hline hs, ?_⟩
  refine h σ F H ω _ en (po.bind.imp fun xs po v F1 H1 s1 ⟨p, vs, e, sq, r⟩ => ?_)
  subst e
  refine ⟨.inl ⟨rfl, vs, sq⟩, ?_⟩
  refine h2 σ F1 H1 ω _ (en.stp s1) (po.bind.imp fun x po y F2 H2 s2 ry => ?_)
  unfold indexO at po
  by_cases c : x ∈ xs
  · rw [if_pos c] at po
    have r2 : Fa2 (T.rel X.K F2) vs xs := r.imp fun _ _ => T.mono s2.ff
    obtain ⟨z, h3, h4, h5⟩ := fa2_find q ry r2 c
    obtain ⟨f1, _⟩ := inV_eq q ry r2
    exact ⟨p, vs, y, _, z, rfl, rfl, s2.hh.seq sq, (q _ F2 y y x x ry ry).1, f1, h3, h4, h5, po _ F2 H2 (s1.trans s2) rfl⟩
  · rw [if_neg c] at po
    exact po.elim

/-! ### [elt for tg in iter if .. for tg1 in iter1 if ..] -/
/-- the pairs of both walks, in order -/
def comp2O {α β γ : Type} (f : α → Out (List β)) (g : α → β → Out (Option γ)) : List α → Out (List γ)
  | [] => pure []
  | x :: xs => match f x with
    | .ok ys => (match compO (g x) ys with
      | .ok bs => (match comp2O f g xs with
        | .ok cs => .ok (bs ++ cs)
        | _ => .stuck)
      | _ => .stuck)
    | _ => .stuck
theorem comp2_cons {α β γ : Type} {f : α → Out (List β)} {g : α → β → Out (Option γ)} {x : α} {xs : List α} {r : List γ} (h : comp2O f g (x :: xs) = .ok r) : ∃ ys bs cs, f x = .ok ys ∧ compO (g x) ys = .ok bs ∧ comp2O f g xs = .ok cs ∧ r = bs ++ cs := by
  unfold comp2O at h
  cases e1 : f x with
  | ok ys =>
    simp only [e1] at h
    cases e2 : compO (g x) ys with
    | ok bs =>
      simp only [e2] at h
      cases e3 : comp2O f g xs with
      | ok cs =>
        simp only [e3] at h
        cases h
        exact ⟨ys, bs, cs, rfl, e2, rfl, rfl⟩
      | err z => simp only [e3] at h; cases h
      | stuck => simp only [e3] at h; cases h
    | err z => simp only [e2] at h; cases h
    | stuck => simp only [e2] at h; cases h
  | err z => rw [e1] at h; cases h
  | stuck => rw [e1] at h; cases h
/-- lists that the machine holds -/
def limO {α : Type} (xs : List α) : Out (List α) := if xs.length ≤ 16777216 then pure xs else .stuck
theorem comp_cons {α β : Type} {f : α → Out (Option β)} {a : α} {xs : List α} {r : List β} (h : compO f (a :: xs) = .ok r) : (f a = .ok none ∧ compO f xs = .ok r) ∨ ∃ b r2, f a = .ok (some b) ∧ compO f xs = .ok r2 ∧ r = b :: r2 := by
  unfold compO at h
  cases e : f a with
  | ok o =>
    rw [e] at h
    cases o with
    | none => exact .inl ⟨rfl, h⟩
    | some b =>
      cases e2 : compO f xs with
      | ok r2 =>
        simp only [e2] at h
        cases h
        exact .inr ⟨b, r2, rfl, rfl, rfl⟩
      | err x => simp only [e2] at h; cases h
      | stuck => simp only [e2] at h; cases h
  | err x => rw [e] at h; cases h
  | stuck => rw [e] at h; cases h
/-- an address that nobody knows is written -/
theorem env_updN {K : PySem.W.Frag} {Γ : List Slot} {σ : L2.St} {F H : Hp} {ω : Ow} {D : Addr} {o : HO} (e : EnvOk K B Γ σ F H ω) (h1 : ω D = none) (h2 : B.H D = none) (h3 : F D = none) : EnvOk K B Γ σ F (upd H D o) ω := by
  refine ⟨⟨e.base.ff, fun a u h => ?_, fun a u h n => ?_, fun a h => ?_, e.base.old⟩, e.len, fun a i h => ?_, fun i s h => Slot.keep (e.slot i s h) (Same.refl F) fun p hp => upd_ne fun z => ?_⟩
  · rw [upd_ne (fun z => by rw [z, h3] at h; cases h)]
    exact e.base.fh a u h
  · rw [upd_ne (fun z => by rw [z, h2] at h; cases h)]
    exact e.base.hh a u h n
  · by_cases c : a = D
    · rw [c, upd_same]
      exact fun z => nomatch z
    · rw [upd_ne c]
      exact e.base.there a h
  · obtain ⟨x, y, z⟩ := e.own a i h
    refine ⟨x, ?_, z⟩
    rw [upd_ne (fun z => by rw [z, h1] at h; cases h)]
    exact y
  · rw [z, h1] at hp
    cases hp
section
variable {tg iter tg1 iter1 elt : Expr} {ifs1 : List Expr} {scope : Scope} {own : List (Str × Nat)} {vs1 : List Nat} {pos p : Pos} {α β γ : Type} {T : Ty α} {S : Ty β} {U : Ty γ} {mi : Out (List α)} {ix ix1 : List Nat} {g : α → List Slot → List Slot} {g1 : β → List Slot → List Slot} {mi1 : α → Out (List β)} {mc : α → β → Out Bool} {m : α → β → Out γ}
theorem lc2_read (C : XC X N sc k E) (hv1 : ∀ j ∈ vs1, j ∈ own.map (·.2)) (hit : WI X E B Γ tg iter T mi) (hix : ∀ j ∈ ix, j ∈ own.map (·.2)) (hg : ∀ s H' Cc cl fp, WG (bx X scope s H' Cc cl fp) B tg T ix g)
    (hit1 : ∀ s H' Cc cl fp a, WI (bx X scope s H' Cc cl fp) E0 B (g a (wipeS Γ (own.map (·.2)))) tg1 iter1 S (mi1 a)) (hix1 : ∀ j ∈ ix1, j ∈ vs1) (hg1 : ∀ s H' Cc cl fp, WG (bx X scope s H' Cc cl fp) B tg1 S ix1 g1)
    (hc : ∀ s H' Cc cl fp a b, WTs (bx X scope s H' Cc cl fp) E0 B (g1 b (wipeS (g a (wipeS Γ (own.map (·.2)))) vs1)) ifs1 (mc a b)) (he : ∀ s H' Cc cl fp a b, WE (bx X scope s H' Cc cl fp) E0 B (g1 b (wipeS (g a (wipeS Γ (own.map (·.2)))) vs1)) elt U.rl (m a b))
    {σ : L2.St} {F H : Hp} {ω : Ow} {Q : VK} (en : EnvOk X.K B Γ σ F H ω) (po : Post (mi >>= fun xs => comp2O mi1 (fun a b => ifO (mc a b) (m a b)) xs >>= limO) (fun bs => ∀ v F' H' S, Stp F H F' H' → (∀ p, S p → F' p = none ∧ H' p ≠ none ∧ H p = none) → (oLst U).rel X.K F' H' S v bs → Q v H') (RB X.K B E)) :
    tLc2 (sI X tg iter) (uG X scope tg) (uT X scope []) (uI X scope tg1 iter1) (uG X scope tg1) (uT X scope ifs1) (uE X scope elt) (own.map (·.2)) vs1 σ H Q := by
  refine hit σ F H ω _ en (po.bind.imp fun xs q J F1 H1 s1 tw hl D hD => ?_)
  have hD0 : H D = none := s1.hh.free hD
  have hF1 : F1 D = none := s1.fh.free hD
  obtain ⟨bs, hb, hbl, q⟩ : ∃ bs, comp2O mi1 (fun a b => ifO (mc a b) (m a b)) xs = .ok bs ∧ bs.length ≤ 16777216 ∧ ∀ v F' H' S, Stp F H F' H' → (∀ p, S p → F' p = none ∧ H' p ≠ none ∧ H p = none) → (oLst U).rel X.K F' H' S v bs → Q v H' := by
    cases e : comp2O mi1 (fun a b => ifO (mc a b) (m a b)) xs with
    | ok bs =>
      rw [e] at q
      have q : Post (limO bs) _ _ := q
      unfold limO at q
      by_cases c : bs.length ≤ 16777216
      · rw [if_pos c] at q
        exact ⟨bs, rfl, c, q⟩
      · rw [if_neg c] at q
        exact q.elim
    | err x =>
      exfalso
      have : ∀ ys : List α, comp2O mi1 (fun a b => ifO (mc a b) (m a b)) ys ≠ .err x := by
        intro ys z
        cases ys with
        | nil => cases z
        | cons y ys =>
          unfold comp2O at z
          split at z
          · split at z
            · split at z <;> cases z
            · cases z
          · cases z
      exact this xs e
    | stuck => rw [e] at q; exact q.elim
  have enw := env_wipe (en.stp s1) (own.map (·.2))
  -- what stands in the new list: acc; its length is bounded by the reader's own bound at each append
  refine ⟨fun i mm H' => mm = xs.length - i ∧ i ≤ xs.length ∧ ∃ F' vs acc rest, Stp F1 H1 F' H' ∧ F' D = none ∧ H' D = some (.lst vs) ∧ Fa2 (U.rel X.K F') vs acc ∧ comp2O mi1 (fun a b => ifO (mc a b) (m a b)) (xs.drop i) = .ok rest ∧ bs = acc ++ rest,
    ⟨xs.length, by simp, Nat.zero_le _, F1, [], [], bs, Stp.newH s1.fh hD, hF1, upd_same, .nil, by rw [List.drop_zero]; exact hb, rfl⟩, ?_⟩
  rintro i mm H' ⟨rfl, hi, F', vs, acc, rest, s', hF', hH', ra, hr, ebs⟩
  by_cases hlt : i < xs.length
  · refine .inr ⟨tw.goes i F' H' hlt s'.ff s'.fh, _, fun H2 h => h, fun x H2 y => ?_⟩
    obtain ⟨F2, a, s2, ea, rx⟩ := tw.yields i F' H' x H2 hlt s'.ff s'.fh y
    have ed : xs.drop i = a :: xs.drop (i + 1) := by
      rw [List.getElem?_eq_getElem hlt] at ea
      rw [List.drop_eq_getElem_cons hlt, Option.some.inj ea]
    rw [ed] at hr
    obtain ⟨ys, b1, c1, e1, e2, e3, e4⟩ := comp2_cons hr
    have s3 := s'.trans s2
    have hF2 : F2 D = none := s2.old D hF' (by rw [hH']; exact fun z => nomatch z)
    have hH2 : H2 D = some (.lst vs) := s2.hh _ _ hH'
    intro sb Hb Cb clb fpb
    refine hg sb Hb Cb clb fpb _ F2 H2 ω _ x a _ (enw.stp s3) rx fun σ2 ω2 k2 l2 o2 en2 => ?_
    refine ⟨(wipe_eq k2 l2 hix).trans (wipe_wipe _ _), ?_⟩
    intro sc2 Hc2 Cc2 clc2 fpc2
    refine ⟨_, pts_nil, ?_⟩
    simp only [if_true]
    intro sd Hd Cd cld fpd
    refine hit1 sd Hd Cd cld fpd a σ2 F2 H2 ω2 _ en2 ?_
    rw [e1]
    intro J1 F3 H3 s4 tw1 hl1
    have s34 := s3.trans s4
    have hF3 : F3 D = none := s4.old D hF2 (by rw [hH2]; exact fun z => nomatch z)
    have hH3 : H3 D = some (.lst vs) := s4.hh _ _ hH2
    have en3 := en2.stp s4
    have enw1 := env_wipe en3 vs1
    have hω2 : ω2 D = none := o2 D (by
      cases h : ω D with
      | none => rfl
      | some i => exact absurd hD0 (en.own D i h).2.1)
    have hBD : B.H D = none := by
      cases h : B.H D with
      | none => rfl
      | some o => exact absurd hD0 (en.base.there D (by rw [h]; exact fun z => nomatch z))
    refine ⟨fun j kk H' => kk = ys.length - j ∧ j ≤ ys.length ∧ ∃ F' vs acc1 rest1, Same F3 F' ∧ EnvOk X.K B (wipeS (g a (wipeS Γ (own.map (·.2)))) vs1) (wipe σ2 vs1) F' H' ω2 ∧ Stp F1 H1 F' H' ∧ F' D = none ∧ H' D = some (.lst vs) ∧ Fa2 (U.rel X.K F') vs (acc ++ acc1) ∧ compO (fun b => ifO (mc a b) (m a b)) (ys.drop j) = .ok rest1 ∧ b1 = acc1 ++ rest1, ⟨ys.length, by simp, Nat.zero_le _, F3, vs, [], b1, Same.refl F3, enw1, s34, hF3, hH3, by rw [List.append_nil]; exact ra.imp fun _ _ => U.mono (s2.trans s4).ff, by rw [List.drop_zero]; exact e2, rfl⟩, ?_⟩
    rintro j kk H4 ⟨rfl, hj, F4, vs4, acc1, rest1, sa, ea4, sb4, hF4, hH4, ra4, hr4, eb1⟩
    by_cases hjl : j < ys.length
    · refine .inr ⟨tw1.goes j F4 H4 hjl sa sb4.fh, _, fun H2 h => h, fun x1 H5 y5 => ?_⟩
      obtain ⟨F5, b, s5, eb, rx5⟩ := tw1.yields j F4 H4 x1 H5 hjl sa sb4.fh y5
      have ed5 : ys.drop j = b :: ys.drop (j + 1) := by
        rw [List.getElem?_eq_getElem hjl] at eb
        rw [List.drop_eq_getElem_cons hjl, Option.some.inj eb]
      rw [ed5] at hr4
      have hF5 : F5 D = none := s5.old D hF4 (by rw [hH4]; exact fun z => nomatch z)
      have hH5 : H5 D = some (.lst vs4) := s5.hh _ _ hH4
      have ea5 := ea4.stp s5
      intro se He Ce cle fpe
      refine hg1 se He Ce cle fpe _ F5 H5 ω2 _ x1 b _ ea5 rx5 fun σ6 ω6 k6 l6 _ en6 => ?_
      refine ⟨(wipe_eq k6 l6 hix1).trans (wipe_wipe _ _), ?_⟩
      intro sf Hf Cf clf fpf
      rcases comp_cons hr4 with ⟨i1, i2⟩ | ⟨c, r2, i1, i2, i3⟩
      · have hm := ifO_none i1
        refine hc sf Hf Cf clf fpf a b σ6 F5 H5 ω6 _ en6 ?_
        rw [hm]
        intro F6 H6 s6
        simp only [Bool.false_eq_true, if_false]
        exact ⟨ys.length - (j + 1), by omega, rfl, hjl, F6, vs4, acc1, rest1, (sa.trans s5.ff).trans s6.ff, ea5.stp s6, (sb4.trans s5).trans s6, s6.old D hF5 (by rw [hH5]; exact fun z => nomatch z), s6.hh _ _ hH5, ra4.imp fun _ _ => U.mono (s5.trans s6).ff, i2, eb1⟩
      · obtain ⟨hm, hv⟩ := ifO_some i1
        refine hc sf Hf Cf clf fpf a b σ6 F5 H5 ω6 _ en6 ?_
        rw [hm]
        intro F6 H6 s6
        simp only [if_true]
        intro sg Hg Cg clg fpg
        refine he sg Hg Cg clg fpg a b σ6 F6 H6 ω6 _ (en6.stp s6) ?_
        rw [hv]
        intro v F7 H7 s7 rv
        have s57 := (s5.trans s6).trans s7
        have hF7 : F7 D = none := (s6.trans s7).old D hF5 (by rw [hH5]; exact fun z => nomatch z)
        have hH7 : H7 D = some (.lst vs4) := (s6.trans s7).hh _ _ hH5
        refine ⟨vs4, hH7, ?_, ?_⟩
        · rw [ra4.len, sizeLine_eq]
          have : (acc ++ acc1).length < bs.length := by
            rw [ebs, e4, eb1, i3]
            simp only [List.length_append, List.length_cons]
            omega
          omega
        · exact ⟨ys.length - (j + 1), by omega, rfl, hjl, F7, vs4 ++ [v], acc1 ++ [c], r2, sa.trans s57.ff, env_updN ((ea5.stp s6).stp s7) hω2 hBD hF7, (sb4.trans s57).updN hD hF7, hF7, upd_same, by
            rw [← List.append_assoc]
            exact (ra4.imp fun _ _ => U.mono s57.ff).app (.cons rv .nil), i2, by rw [eb1, i3, List.append_assoc] <;> rfl⟩
    · have ej : j = ys.length := by omega
      subst ej
      rw [List.drop_length] at hr4
      have er : rest1 = [] := by cases hr4; rfl
      subst er
      rw [List.append_nil] at eb1
      subst eb1
      refine .inl ⟨tw1.stops F4 H4 sa sb4.fh, ?_⟩
      exact ⟨xs.length - (i + 1), by omega, rfl, hlt, F4, vs4, acc ++ b1, c1, sb4, hF4, hH4, ra4, e3, by rw [ebs, e4, List.append_assoc]⟩
  · have e : i = xs.length := by omega
    subst e
    rw [List.drop_length] at hr
    have er : rest = [] := by cases hr; rfl
    subst er
    rw [List.append_nil] at ebs
    subst ebs
    refine .inl ⟨tw.stops F' H' s'.ff s'.fh, ?_⟩
    exact q (.ref D) F' H' (fun a => a = D) (s1.trans s') (fun a e => by
      subst e
      exact ⟨hF', (by rw [hH']; exact fun z => nomatch z), hD0⟩) ⟨D, vs, rfl, rfl, hH', ra⟩
/-- as a value -/
theorem wo_lc2 (C : XC X N sc k E) (own : List (Str × Nat)) (vs1 : List Nat) (hk : blkC N sc.sc scope own = true) (hv1 : ∀ j ∈ vs1, j ∈ own.map (·.2)) (hit : WI X E B Γ tg iter T mi) (hix : ∀ j ∈ ix, j ∈ own.map (·.2)) (hg : ∀ s H' Cc cl fp, XC (bx X scope s H' Cc cl fp) N ⟨relS scope sc.sc, scope⟩ k E0 → WG (bx X scope s H' Cc cl fp) B tg T ix g)
    (hit1 : ∀ s H' Cc cl fp a, XC (bx X scope s H' Cc cl fp) N ⟨relS scope sc.sc, scope⟩ k E0 → WI (bx X scope s H' Cc cl fp) E0 B (g a (wipeS Γ (own.map (·.2)))) tg1 iter1 S (mi1 a)) (hg1 : ∀ s H' Cc cl fp, XC (bx X scope s H' Cc cl fp) N ⟨relS scope sc.sc, scope⟩ k E0 → WG (bx X scope s H' Cc cl fp) B tg1 S ix1 g1) (hix1 : ∀ j ∈ ix1, j ∈ vs1)
    (hc : ∀ s H' Cc cl fp a b, XC (bx X scope s H' Cc cl fp) N ⟨relS scope sc.sc, scope⟩ k E0 → WTs (bx X scope s H' Cc cl fp) E0 B (g1 b (wipeS (g a (wipeS Γ (own.map (·.2)))) vs1)) ifs1 (mc a b)) (he : ∀ s H' Cc cl fp a b, XC (bx X scope s H' Cc cl fp) N ⟨relS scope sc.sc, scope⟩ k E0 → WE (bx X scope s H' Cc cl fp) E0 B (g1 b (wipeS (g a (wipeS Γ (own.map (·.2)))) vs1)) elt U.rl (m a b))
    (hs : ∀ x, foldedSetIterable iter X.env x = pure x := by intro _; rfl) (hs1 : ∀ env x, foldedSetIterable iter1 env x = pure x := by intro _ _; rfl) :
    WO X E B Γ (.ListComp elt [⟨tg, iter, [], 0⟩, ⟨tg1, iter1, ifs1, 0⟩] scope pos) (oLst U) (mi >>= fun xs => comp2O mi1 (fun a b => ifO (mc a b) (m a b)) xs >>= limO) := fun σ F H ω Q en po =>
  ⟨_, pe_lc2 C.calm (by rw [C.nm]; exact C.nd) pi_s (blk_ok C hk) hv1 pg_u pts_u pi_u pg_u pts_u pe_u hs hs1, lc2_read C hv1 hit hix (fun s H' Cc cl fp => hg s H' Cc cl fp (xc_blk C s H' Cc cl fp)) (fun s H' Cc cl fp a => hit1 s H' Cc cl fp a (xc_blk C s H' Cc cl fp)) hix1 (fun s H' Cc cl fp => hg1 s H' Cc cl fp (xc_blk C s H' Cc cl fp)) (fun s H' Cc cl fp a b => hc s H' Cc cl fp a b (xc_blk C s H' Cc cl fp)) (fun s H' Cc cl fp a b => he s H' Cc cl fp a b (xc_blk C s H' Cc cl fp)) en po⟩
/-- name = [..] on one line -/
theorem ws_lc2 {b : List Stmt} {bs : List (List Stmt)} {δ : Type} {D : δ → SOut} {f : List γ → Out δ} {y : Str} {py spos : Pos} (C : XC X N sc k E) (i : Nat) (own : List (Str × Nat)) (vs1 : List Nat) (hk : blkC N sc.sc scope own = true) (hv1 : ∀ j ∈ vs1, j ∈ own.map (·.2)) (hit : WI X E B Γ tg iter T mi) (hix : ∀ j ∈ ix, j ∈ own.map (·.2))
    (hg : ∀ s H' Cc cl fp, XC (bx X scope s H' Cc cl fp) N ⟨relS scope sc.sc, scope⟩ k E0 → WG (bx X scope s H' Cc cl fp) B tg T ix g) (hit1 : ∀ s H' Cc cl fp a, XC (bx X scope s H' Cc cl fp) N ⟨relS scope sc.sc, scope⟩ k E0 → WI (bx X scope s H' Cc cl fp) E0 B (g a (wipeS Γ (own.map (·.2)))) tg1 iter1 S (mi1 a)) (hg1 : ∀ s H' Cc cl fp, XC (bx X scope s H' Cc cl fp) N ⟨relS scope sc.sc, scope⟩ k E0 → WG (bx X scope s H' Cc cl fp) B tg1 S ix1 g1) (hix1 : ∀ j ∈ ix1, j ∈ vs1)
    (hc : ∀ s H' Cc cl fp a b, XC (bx X scope s H' Cc cl fp) N ⟨relS scope sc.sc, scope⟩ k E0 → WTs (bx X scope s H' Cc cl fp) E0 B (g1 b (wipeS (g a (wipeS Γ (own.map (·.2)))) vs1)) ifs1 (mc a b)) (he : ∀ s H' Cc cl fp a b, XC (bx X scope s H' Cc cl fp) N ⟨relS scope sc.sc, scope⟩ k E0 → WE (bx X scope s H' Cc cl fp) E0 B (g1 b (wipeS (g a (wipeS Γ (own.map (·.2)))) vs1)) elt U.rl (m a b))
    (hr : ∀ a, WS X E B (Γ.set i (.on _ (oLst U) a)) (b :: bs) (f a) D) (hN : N[i]? = some y := by rfl) (hyl : sc.sc.names.lookup y = some .local := by rfl) (hkd : sc.sc.kind = .function := by rfl) (hln : (py.line == pos.line) = true := by rfl)
    (hna : (scope.names.any fun (n, k) => n == y && (k == .local || k == .cell)) = false := by decide +kernel) (hs : ∀ x, foldedSetIterable iter X.env x = pure x := by intro _; rfl) (hs1 : ∀ env x, foldedSetIterable iter1 env x = pure x := by intro _ _; rfl) :
    WS X E B Γ ((.Assign [.Name y py] (.ListComp elt [⟨tg, iter, [], 0⟩, ⟨tg1, iter1, ifs1, 0⟩] scope pos) spos :: b) :: bs) ((mi >>= fun xs => comp2O mi1 (fun a b => ifO (mc a b) (m a b)) xs >>= limO) >>= f) D := fun σ F H ω En en q => by
  have hyl' : X.env.scope.names.lookup y = some .local := by rw [C.scp]; exact hyl
  refine sK_cons ⟨_, ps_setLc2 (i := i) C.calm (by rw [C.nm]; exact C.nd) (by rw [C.nm]; exact hN) hyl' (sw_true (by rw [C.scp]; exact hkd) hyl' hln hna) pi_s (blk_ok C hk) hv1 pg_u pts_u pi_u pg_u pts_u pe_u hs hs1, ?_⟩
  refine lc2_read C hv1 hit hix (fun s H' Cc cl fp => hg s H' Cc cl fp (xc_blk C s H' Cc cl fp)) (fun s H' Cc cl fp a => hit1 s H' Cc cl fp a (xc_blk C s H' Cc cl fp)) hix1 (fun s H' Cc cl fp => hg1 s H' Cc cl fp (xc_blk C s H' Cc cl fp)) (fun s H' Cc cl fp a b => hc s H' Cc cl fp a b (xc_blk C s H' Cc cl fp)) (fun s H' Cc cl fp a b => he s H' Cc cl fp a b (xc_blk C s H' Cc cl fp)) en (q.bind.imp fun a q v F1 H1 S s1 d r => ?_)
  obtain ⟨ω', en'⟩ := env_setO (i := i) (en.stp s1) (new_ok en s1 d) r
  exact hr a _ F1 H1 _ En en' (q.imp fun b z => EndOk.up z s1.ff)
end
end SL

set_option Elab.async false
set_option linter.all false
set_option maxRecDepth 100000
set_option maxHeartbeats 3200000
/-! SLn: set(xs) of a list of ints. -/
namespace SL
open PySem PySem.Spec PyProof.Rows L2
section
variable {P : Program} {w : World} {A : Around} {E : Value → Shared → Prop} {s : Shared}
/-- the new set's object -/
abbrev setO0 (w : World) : Obj := { cls := .type "set", dict := none, data := .set #[] 0 (.fresh 0 0 (!w.params.followText "set-order")) }
theorem call_set_ints {l : Addr} {items : Array Value} (ns : List Int) {Q : Value → Shared → Prop} (hh : A.handled = none) (hl : s.heap.IsList l items) (hit : IntsAre items.toList ns) (hb : ns.length + 1 < scanBound)
    (h : ∀ (h' : Heap) (tk c : Nat), SetR w h' s.heap.objs.size (fun j => decide (j ∈ ns)) c → c ≤ ns.length → (∀ b o, s.heap.get? b = some o → h'.get? b = some o) → Q (.ref s.heap.objs.size) { s with heap := h', toks := tk }) :
    wpAny (model P w) A (call (.type "set") [.ref l]) Q E s := by
  have hisz : items.size = ns.length := by
    have q := IntsAre.length hit
    rwa [Array.length_toList] at q
  obtain ⟨c, tl, hmro⟩ := F.called_set.mro
  have hmade := F.called_set.made
  have hsub := F.called_set.sub
  have h1 := F.called_set.notType
  have h2 := F.called_set.canCreate
  have hct := F.typeCall_set_1 (.ref l)
  refine wpAny_call (codeAny_of_tree ?_)
  show wpAny _ _ (callAny (.type "set") _) _ _ _
  refine wpAny_pure ⟨Code.quiet_builtin _ (by decide +kernel), codeAny_builtin F.entry_type_call ?_⟩
  rw [Around.under_plain (weight_type_call_type "set" [.ref l] []) rfl]
  repeat (any_goals (first | assumption | wp_step))
  refine codeAny_mono (code_set_led1 (.ref l) (E := E) (Q₁ := fun obj s₁ => obj = .ref s.heap.objs.size ∧ s₁ = { s with heap := s.heap.push (setO0 w) }) ⟨rfl, rfl⟩) fun r s₁ hr => ?_
  cases r with
  | error e => exact hr
  | ok fl =>
    cases fl with
    | ret obj =>
      obtain ⟨rfl, rfl⟩ := hr
      have hS : (s.heap.push (setO0 w)).get? s.heap.objs.size = some (setO0 w) := Heap.get?_push_size _ rfl
      have hT : Shared.TypeIs { s with heap := s.heap.push (setO0 w) } (.ref s.heap.objs.size) "set" := ⟨_, hS, rfl⟩
      have hli := F.called_set.init.lookup
      have hbi := F.called_set.init.bind (.ref s.heap.objs.size)
      repeat (any_goals (first | assumption | wp_step))
      refine codeAny_mono (codeAny_call_builtin (R := wants (fun r s₂ => r = .none ∧ ∃ h' tk c, s₂ = { s with heap := h', toks := tk } ∧ SetR w h' s.heap.objs.size (fun j => decide (j ∈ ns)) c ∧ c ≤ ns.length ∧
          (∀ b o, s.heap.get? b = some o → h'.get? b = some o)) E) F.called_set.init.plain F.entry_set_init (check_set_init_1 hT ?_)) fun r₂ s₂ hr₂ => ?_
      · obtain ⟨⟨ocls, odict, odata, oslots⟩, hol, hcl, nl, hdl⟩ := hl
        simp only at hcl hdl
        subst hcl; subst hdl
        have hol' : (s.heap.push (setO0 w)).get? l = some { cls := .type "list", dict := odict, data := .seq items nl, slots := oslots } := Heap.get?_push_of_some _ hol
        have hsls := F.sub_list_set
        have hslf := F.sub_list_frozenset
        have hne : (Value.type "list" == Value.type "dict") = false := by decide
        have hl1 : (s.heap.push (setO0 w)).IsList l items := ⟨_, hol', rfl, nl, rfl⟩
        have hlS : l < s.heap.objs.size := Heap.lt_size hol
        have hzz : (s.heap.push (setO0 w)).objs.size = s.heap.objs.size + 1 := Heap.size_push ..
        have hneI : l ≠ (s.heap.push (setO0 w)).objs.size := by
          rw [hzz]; exact Nat.ne_of_lt (Nat.lt_succ_of_lt hlS)
        have hSf : s.heap.objs.size ∉ [(s.heap.push (setO0 w)).objs.size, l] := by
          rw [hzz]; simp only [List.mem_cons, List.not_mem_nil, or_false, not_or]
          exact ⟨Nat.ne_of_lt (Nat.lt_succ_self _), Nat.ne_of_gt hlS⟩
        have hval : ∀ (i : Nat) (v : Value), items[i]? = some v → ∃ k t, ns[i]? = some k ∧ v = .int k t := fun i v hv => by
          have hi : i < ns.length := by rw [← hisz]; exact (Array.getElem?_eq_some_iff.mp hv).1
          obtain ⟨t, e⟩ := PyProof.Rows.IntsAre.int_at hit i v (by rw [Array.getElem?_toList]; exact hv)
          refine ⟨ns[i], t, List.getElem?_eq_getElem hi, ?_⟩
          rw [e, List.getD_eq_getElem?_getD, List.getElem?_eq_getElem hi] <;> rfl
        unfold Builtin.«set.__init__» noKeywords Builtin.Frozenset.updateFrom
        generalize hPI : pyIter = PI
        wp_walk
        subst hPI
        refine wpAny_pyIter_list hl1 (wpAny_bind (wpAny_runValue ?_))
        have hh3 : A.in1.in1.in1.handled = none := by simp [hh]
        refine set_update_ints ((Walks.list hh3 _ l hneI items).toS) s.heap.objs.size hSf ns hisz hb hval (items.size - 0) 0 _ (by omega) (Nat.zero_le _) ⟨⟨_, Heap.get?_push_size _ rfl, rfl, rfl⟩, (hl1.push _)⟩ ⟨0, Nat.le_refl 0, setR_new_at (Heap.get?_push_of_some _ hS)⟩ fun s' c' hm hc' hS' => ?_
        obtain ⟨h', g2, d', tk', os'⟩ := s'
        have eg : g2 = s.gens := hm.gens
        have ed : d' = s.drawn := hm.drawn
        have eo : os' = s.os := hm.os
        subst eg; subst ed; subst eo
        show wpAny _ _ _ _ _ _
        refine wpAny_pure ?_
        show wpAny _ _ (ret Value.none) _ _ _
        rw [hisz] at hc'
        refine wpAny_pure ⟨rfl, h', tk', c', rfl, hS', hc', fun b o e => ?_⟩
        have hb0 : b < s.heap.objs.size := Heap.lt_size e
        refine hm.heap b o ?_ (Heap.get?_push_of_some _ (Heap.get?_push_of_some _ e))
        rw [hzz]
        simp only [List.mem_cons, List.not_mem_nil, or_false, not_or]
        exact ⟨Nat.ne_of_lt hb0, Nat.ne_of_lt (Nat.lt_succ_of_lt hb0)⟩
      · cases r₂ with
        | error e => exact hr₂
        | ok fl₂ =>
          cases fl₂ with
          | ret r =>
            obtain ⟨rfl, h', tk, c', rfl, hS', hc', hk'⟩ := hr₂
            repeat (any_goals (first | assumption | wp_step))
            exact h _ _ _ hS' hc' hk'
          | _ => exact hr₂.elim
    | _ => exact hr.elim
end
variable {X : Cx} {N : List Str} {sc : Scp} {k : Nat} {E : XK} {B : Bs} {Γ : List Slot}
def rSetOf (K : PySem.W.Frag) (w : World) : List V → Hp → VK → Prop := fun vs H Q => ∃ (l : Addr) (ns : List Int), vs = [.ref l] ∧ SqL K H l (ns.map V.int) ∧ ns.length + 1 < scanBound ∧ ∀ (p : Addr) (c : Nat), H p = none → c ≤ ns.length → Q (.ref p) (upd H p (SetO w p (fun j => decide (j ∈ ns)) c))
theorem cr_setOf (hc : X.calm = true) : CallR X (.type "set") (rSetOf X.K X.w) := by
  intro pins s σ H vs us Q I r h
  obtain ⟨l, ns, rfl, hq, hb, q⟩ := h
  obtain ⟨its, rv, hl, hz⟩ := I.list hq
  rw [Vals.ref1 r]
  refine call_set_ints ns (I.ok.hd hc) hl.isList (by simpa using rv.ints) hb fun h' tk c hS hcl hk => ?_
  exact ⟨.ref s.heap.objs.size, upd H s.heap.objs.size (SetO X.w s.heap.objs.size (fun j => decide (j ∈ ns)) c), I.laid (t' := tk) hk (Nat.le_refl _) (setO_new hS), rfl, q _ c (I.hok.fresh (Nat.le_refl _)) hcl⟩
def setOfO (xs : List Int) : Out (List Int) := if xs.length < 4000 then pure xs else .stuck
/-- set(xs): its members are those of xs -/
theorem wo_setL (C : XC X N sc k E) (Z : Fre X.mg) {e : Expr} {m : Out (List Int)} {p pos : Pos} (h : WE X E B Γ e (rLst tInt) m) (hg : GlN sc "set" := by rfl) (he : starEach (e :: []) X.env = (false, eval e X.env) :: starEach [] X.env := by rfl) :
    WO X E B Γ (.Call (.Name "set" p) [e] [] pos) (oSet X.w) (m >>= setOfO) := by
  refine ctO (R := rLst tInt) C (cr_setOf C.calm) Z.set (by decide +kernel) (fun F H x a Q J s hx po => ?_) h hg (he := he)
  obtain ⟨p, vs, e, q, r⟩ := hx
  have ev := fa2_int r
  subst ev
  unfold setOfO at po
  by_cases c : a.length < 4000
  · rw [if_pos c] at po
    refine ⟨p, a, by rw [e], q, by rw [show scanBound = 4096 from rfl]; omega, fun d n hd hn => ?_⟩
    exact po (.ref d) F _ (fun z => z = d) (Stp.newH s hd) (fun z e => by
      subst e
      exact ⟨s.free hd, (by rw [upd_same]; exact fun z => nomatch z), hd⟩) ⟨d, rfl, rfl, n, by rw [upd_same], hn⟩
  · rw [if_neg c] at po
    exact po.elim
end SL

set_option Elab.async false
set_option linter.all false
set_option maxRecDepth 100000
set_option maxHeartbeats 2000000
/-! SLo: own things that reach further; dicts. -/
namespace SL
open PySem PySem.Spec PyProof.Rows L2
variable {X : Cx} {N : List Str} {sc : Scp} {k : Nat} {E : XK} {B : Bs} {Γ : List Slot}
/-- the own thing of slot i changes as a whole: its addresses are now those of S' -/
theorem env_mut {K : PySem.W.Frag} {Γ : List Slot} {σ : L2.St} {F H H' : Hp} {ω : Ow} {i : Nat} {v : V} (s : Slot) (S' : Addr → Prop) (e : EnvOk K B Γ σ F H ω) (hv : σ[i]? = some (some v))
    (h1 : ∀ p, H p ≠ none → ω p ≠ some i → H' p = H p) (h2 : ∀ p, H p ≠ none → H' p ≠ none) (hS : ∀ p, S' p → F p = none ∧ H' p ≠ none ∧ (ω p = some i ∨ H p = none)) (r : s.ok K F H' S' (some v)) :
    ∃ ω', (∀ p, ω' p = some i ↔ S' p) ∧ EnvOk K B (Γ.set i s) σ F H' ω' := by
  classical
  have hn : ∀ p, ω p = some i → F p = none := fun p hp => (e.own p i hp).1
  have hN : ∀ p, H p = none → ω p = none := fun p hp => by
    cases h : ω p with
    | none => rfl
    | some j => exact absurd hp (e.own p j h).2.1
  have hω : ∀ p, (if S' p then some i else if ω p = some i then none else ω p) = some i ↔ S' p := fun p => by
    by_cases c : S' p
    · simp [c]
    · by_cases c2 : ω p = some i <;> simp [c, c2]
  have hj : ∀ p j, i ≠ j → ((if S' p then some i else if ω p = some i then none else ω p) = some j ↔ ω p = some j) := fun p j hij => by
    by_cases c : S' p
    · simp only [if_pos c]
      constructor
      · exact fun z => absurd (Option.some.inj z) hij
      · intro z
        rcases (hS p c).2.2 with q | q
        · rw [q] at z
          exact absurd (Option.some.inj z) hij
        · rw [hN p q] at z
          cases z
    · simp only [if_neg c]
      by_cases c2 : ω p = some i
      · simp only [if_pos c2, c2]
        exact ⟨(fun z => nomatch z), fun z => absurd (Option.some.inj z) hij⟩
      · simp only [if_neg c2]
  refine ⟨fun p => if S' p then some i else if ω p = some i then none else ω p, hω, ⟨e.base.ff, fun a u h => ?_, fun a u h n => ?_, fun a h => h2 a (e.base.there a h), e.base.old⟩, by rw [List.length_set, e.len], fun p j h => ?_, fun j t h => ?_⟩
  · have hh := e.base.fh a u h
    rw [h1 a (by rw [hh]; exact fun z => nomatch z) (fun z => by rw [hn a z] at h; cases h)]
    exact hh
  · have hh := e.base.hh a u h n
    rw [h1 a (by rw [hh]; exact fun z => nomatch z) (fun z => by
      rcases (e.own a i z).2.2 with q | q
      · rw [q] at h; cases h
      · exact n q)]
    exact hh
  · by_cases hij : i = j
    · subst hij
      obtain ⟨x, y, z⟩ := hS p ((hω p).mp h)
      refine ⟨x, y, ?_⟩
      rcases z with z | z
      · exact (e.own p i z).2.2
      · refine .inl ?_
        cases q : B.H p with
        | none => rfl
        | some o => exact absurd z (e.base.there p (by rw [q]; exact fun z => nomatch z))
    · have h' := (hj p j hij).mp h
      obtain ⟨x, y, z⟩ := e.own p j h'
      exact ⟨x, h2 p y, z⟩
  · by_cases hij : i = j
    · subst hij
      have hi : i < Γ.length := by
        have := (List.getElem?_eq_some_iff.mp h).1
        rwa [List.length_set] at this
      rw [List.getElem?_set_self hi] at h
      cases h
      rw [hv]
      exact slot_iff r hω
    · rw [List.getElem?_set_ne hij] at h
      refine slot_iff (Slot.keep (e.slot j t h) (Same.refl F) fun p hp => h1 p (e.own p j hp).2.1 fun z => ?_) fun p => hj p j hij
      rw [z] at hp
      exact hij (Option.some.inj hp)

/-! ### fixed dicts with int keys -/
abbrev ki (k : Int) : Key := Sum.inl k
inductive FaK {α : Type} (R : V → α → Prop) : List (Key × V) → List (Int × α) → Prop where
  | nil : FaK R [] []
  | cons {k : Int} {v : V} {x : α} {kvs : List (Key × V)} {a : List (Int × α)} : R v x → FaK R kvs a → FaK R ((ki k, v) :: kvs) ((k, x) :: a)
theorem FaK.imp {α : Type} {R R' : V → α → Prop} {kvs : List (Key × V)} {a : List (Int × α)} (h : FaK R kvs a) (f : ∀ v a, R v a → R' v a) : FaK R' kvs a := by
  induction h with
  | nil => exact .nil
  | cons r _ ih => exact .cons (f _ _ r) ih
def tDic {α : Type} (T : Ty α) : Ty (List (Int × α)) := ⟨fun K F v a => ∃ p kvs, v = .ref p ∧ F p = some (.dK kvs) ∧ FaK (T.rel K F) kvs a, fun s ⟨p, kvs, e, q, r⟩ => ⟨p, kvs, e, s _ _ q, r.imp fun _ _ => T.mono s⟩⟩
def dgetO {α : Type} (a : List (Int × α)) (k : Int) : Out α := match a with
  | [] => .stuck
  | (j, x) :: r => if j = k then pure x else dgetO r k
theorem faK_get {α : Type} {R : V → α → Prop} {kvs : List (Key × V)} {a : List (Int × α)} (h : FaK R kvs a) (k : Int) {P : α → Prop} {J : Err → Prop} (q : Post (dgetO a k) P J) : ∃ v x, valV kvs (ki k) = some v ∧ R v x ∧ P x := by
  induction h with
  | nil => exact q.elim
  | @cons j v x kvs a r _ ih =>
    unfold dgetO at q
    by_cases c : j = k
    · rw [if_pos c] at q
      exact ⟨v, x, valV_pos (p := (ki j, v)) (by rw [c]), r, q⟩
    · rw [if_neg c] at q
      obtain ⟨v2, x2, h1, h2, h3⟩ := ih q
      exact ⟨v2, x2, by rw [valV_neg (p := (ki j, v)) (fun z => c (Sum.inl.inj z))]; exact h1, h2, h3⟩
theorem hu1 (C : XC X N sc k E) : X.A.units + 1 < cLine := by have := C.room.un; omega
/-- d[k] -/
theorem we_dget (C : XC X N sc k E) {e1 e2 : Expr} {α : Type} {T : Ty α} {m : Out (List (Int × α))} {mi : Out Int} {pos : Pos} (h1 : WE X E B Γ e1 (tDic T).rl m) (h2 : WE X E B Γ e2 tInt.rl mi) (hs : NoSl e2 := by intro _ _; rfl) :
    WE X E B Γ (.Subscript e1 e2 pos) T.rl (m >>= fun a => mi >>= fun i => dgetO a i) := fun σ F H ω Q en q => by
  refine ⟨_, pe_dget (hu1 C) pe_s pe_s hs, ?_⟩
  refine h1 σ F H ω _ en (q.bind.imp fun a q v F1 H1 s1 r1 => ?_)
  refine h2 σ F1 H1 ω _ (en.stp s1) (q.bind.imp fun i q y F2 H2 s2 ry => ?_)
  obtain ⟨p, kvs, e, hp, r⟩ := r1
  obtain ⟨v, x, g1, g2, g3⟩ := faK_get r i q
  exact ⟨p, v, e, by rw [show y = .int i from ry]; exact .inl ⟨kvs, .inl i, .inl ((s2.fh _ _ (s2.ff _ _ hp))), rfl, g1.symm⟩, g3 v F2 H2 (s1.trans s2) (T.mono s2.ff g2)⟩
end SL

set_option Elab.async false
set_option linter.all false
set_option maxRecDepth 100000
set_option maxHeartbeats 2000000
/-! SLp: a tuple of dicts of lists, that grows (meeting_edges). -/
namespace SL
open PySem PySem.Spec PyProof.Rows L2
variable {X : Cx} {N : List Str} {sc : Scp} {k : Nat} {E : XK} {B : Bs} {Γ : List Slot}
abbrev kvA (A : List (Int × Addr)) : List (Key × V) := A.map fun p => (ki p.1, V.ref p.2)
inductive LL (H : Hp) : List (Int × Addr) → List (Int × List Int) → Prop where
  | nil : LL H [] []
  | cons {j : Int} {l : Addr} {xs : List Int} {A : List (Int × Addr)} {a : List (Int × List Int)} : H l = some (.lst (xs.map V.int)) → LL H A a → LL H ((j, l) :: A) ((j, xs) :: a)
inductive LD (H : Hp) : List (Addr × List (Int × Addr)) → List (List (Int × List Int)) → Prop where
  | nil : LD H [] []
  | cons {q : Addr} {A : List (Int × Addr)} {a : List (Int × List Int)} {L : List (Addr × List (Int × Addr))} {as : List (List (Int × List Int))} : H q = some (.dK (kvA A)) → LL H A a → LD H L as → LD H ((q, A) :: L) (a :: as)
def adrs : List (Addr × List (Int × Addr)) → List Addr
  | [] => []
  | (q, A) :: L => q :: (A.map (·.2) ++ adrs L)
theorem LL.keep {H H' : Hp} {A : List (Int × Addr)} {a : List (Int × List Int)} (h : LL H A a) (k : ∀ x ∈ A.map (·.2), H' x = H x) : LL H' A a := by
  induction h with
  | nil => exact .nil
  | cons e _ ih => exact .cons ((k _ (by simp)).trans e) (ih fun x hx => k x (by simp only [List.map_cons, List.mem_cons]; exact .inr hx))
theorem LD.keep {H H' : Hp} {L : List (Addr × List (Int × Addr))} {as : List (List (Int × List Int))} (h : LD H L as) (k : ∀ x ∈ adrs L, H' x = H x) : LD H' L as := by
  induction h with
  | nil => exact .nil
  | cons e l _ ih => exact .cons ((k _ (by simp [adrs])).trans e) (l.keep fun x hx => k x (by simp only [adrs, List.mem_cons, List.mem_append]; exact .inr (.inl hx))) (ih fun x hx => k x (by simp only [adrs, List.mem_cons, List.mem_append]; exact .inr (.inr hx)))
def oMeet : Own (List (List (Int × List Int))) := ⟨fun K F H S v a => ∃ p L, v = .ref p ∧ H p = some (.tup (L.map fun x => V.ref x.1)) ∧ LD H L a ∧ (p :: adrs L).Nodup ∧ ∀ x ∈ p :: adrs L, S x,
  fun ⟨p, L, e, h, l, n, hs⟩ s k => ⟨p, L, e, by rw [k p (hs p (by simp))]; exact h, l.keep fun x hx => k x (hs x (by simp [hx])), n, hs⟩⟩
theorem fa_dic {K : PySem.W.Frag} {F : Hp} {A : List (Int × Addr)} {a : List (Int × List Int)} (h : LL F A a) : FaK ((tLst tInt).rel K F) (kvA A) a := by
  induction h with
  | nil => exact .nil
  | @cons j l xs A a e _ ih => exact .cons ⟨l, _, rfl, e, int_fa2 xs⟩ ih
theorem fa_meet {K : PySem.W.Frag} {F : Hp} {L : List (Addr × List (Int × Addr))} {as : List (List (Int × List Int))} (h : LD F L as) : Fa2 ((tDic (tLst tInt)).rel K F) (L.map fun x => V.ref x.1) as := by
  induction h with
  | nil => exact .nil
  | @cons q A a L as e l _ ih => exact .cons ⟨q, _, rfl, e, fa_dic l⟩ ih
theorem fz_meet : Fz oMeet (tTup (tDic (tLst tInt))) := fun K F H S v a d ⟨p, L, e, h, l, n, hs⟩ =>
  ⟨p, _, e, SqT.of ((frz_in (hs p (by simp))).trans h), fa_meet (l.keep fun x hx => frz_in (hs x (by simp [hx])))⟩
theorem int_map_inj : ∀ {a b : List Int}, a.map V.int = b.map V.int → a = b
  | [], [], _ => rfl
  | [], _ :: _, h => by cases h
  | _ :: _, [], h => by cases h
  | x :: a, y :: b, h => by
    simp only [List.map_cons, List.cons.injEq, V.int.injEq] at h
    rw [h.1, int_map_inj h.2]
theorem env_any {K : PySem.W.Frag} {Γ : List Slot} {σ : L2.St} {F H : Hp} {ω : Ow} {i : Nat} (e : EnvOk K B Γ σ F H ω) : EnvOk K B (Γ.set i .any) σ F H ω := ⟨e.base, by rw [List.length_set, e.len], e.own, fun j s h => by
  by_cases c : i = j
  · subst c
    by_cases hi : i < Γ.length
    · rw [List.getElem?_set_self hi] at h
      cases h
      trivial
    · rw [List.getElem?_eq_none (by rw [List.length_set]; omega)] at h
      cases h
  · rw [List.getElem?_set_ne c] at h
    exact e.slot j s h⟩
/-! ### growing -/
def addTo : List (Int × List Int) → Int → Int → List (Int × List Int)
  | [], k, n => [(k, [n])]
  | (j, xs) :: r, k, n => if j = k then (j, xs ++ [n]) :: r else (j, xs) :: addTo r k n
/-- the list at key k, or none -/
theorem ll_find {H : Hp} (k n : Int) {A : List (Int × Addr)} {a : List (Int × List Int)} (h : LL H A a) :
    (valV (kvA A) (ki k) = none ∧ ∀ (D : Addr) (H' : Hp), H' D = some (.lst ([n].map V.int)) → (∀ x ∈ A.map (·.2), H' x = H x) → LL H' (A ++ [(k, D)]) (addTo a k n)) ∨
    ∃ l xs, valV (kvA A) (ki k) = some (.ref l) ∧ H l = some (.lst (xs.map V.int)) ∧ l ∈ A.map (·.2) ∧ (∃ p ∈ a, p.2 = xs) ∧ ∀ H' : Hp, H' l = some (.lst ((xs ++ [n]).map V.int)) → (∀ x ∈ A.map (·.2), x ≠ l → H' x = H x) → (A.map (·.2)).Nodup → LL H' A (addTo a k n) := by
  induction h with
  | nil => exact .inl ⟨rfl, fun D H' hD _ => .cons hD .nil⟩
  | @cons j l xs A a e hr ih =>
    by_cases c : j = k
    · subst c
      refine .inr ⟨l, xs, valV_pos (p := (ki j, V.ref l)) rfl, e, by simp, ⟨_, List.mem_cons_self, rfl⟩, fun H' h1 h2 hn => ?_⟩
      unfold addTo
      rw [if_pos rfl]
      simp only [List.map_cons, List.nodup_cons] at hn
      exact .cons h1 (hr.keep fun x hx => h2 x (by simp only [List.map_cons, List.mem_cons]; exact .inr hx) fun z => hn.1 (z ▸ hx))
    · have hv : valV (kvA ((j, l) :: A)) (ki k) = valV (kvA A) (ki k) := valV_neg (p := (ki j, V.ref l)) fun z => c (Sum.inl.inj z)
      rw [hv]
      have ea : addTo ((j, xs) :: a) k n = (j, xs) :: addTo a k n := by
        rw [addTo, if_neg c]
      rw [ea]
      rcases ih with ⟨h1, h2⟩ | ⟨l2, xs2, h1, h2, h3, ⟨p, hp, hp2⟩, h4⟩
      · refine .inl ⟨h1, fun D H' hD hk => ?_⟩
        exact .cons ((hk l (by simp)).trans e) (h2 D H' hD fun x hx => hk x (by simp only [List.map_cons, List.mem_cons]; exact .inr hx))
      · refine .inr ⟨l2, xs2, h1, h2, by simp only [List.map_cons, List.mem_cons]; exact .inr h3, ⟨p, List.mem_cons_of_mem _ hp, hp2⟩, fun H' g1 g2 hn => ?_⟩
        simp only [List.map_cons, List.nodup_cons] at hn
        exact .cons ((g2 l (by simp) fun z => hn.1 (z ▸ h3)).trans e) (h4 H' g1 (fun x hx => g2 x (by simp only [List.map_cons, List.mem_cons]; exact .inr hx)) hn.2)
/-- the dict at index i -/
theorem ld_at {H : Hp} {L : List (Addr × List (Int × Addr))} {as : List (List (Int × List Int))} (h : LD H L as) : ∀ {i : Nat} {a : List (Int × List Int)}, as[i]? = some a → ∃ q A, L[i]? = some (q, A) ∧ H q = some (.dK (kvA A)) ∧ LL H A a ∧ q ∈ adrs L ∧ (∀ x ∈ A.map (·.2), x ∈ adrs L ∧ ((adrs L).Nodup → x ≠ q)) ∧ ((adrs L).Nodup → (A.map (·.2)).Nodup) ∧
    (∀ H' A' a', H' q = some (.dK (kvA A')) → LL H' A' a' → (∀ x ∈ adrs L, x ≠ q → x ∉ A.map (·.2) → H' x = H x) → (adrs L).Nodup → LD H' (L.set i (q, A')) (as.set i a')) ∧
    (∀ A', (L.set i (q, A')).map (fun x => V.ref x.1) = L.map fun x => V.ref x.1) ∧ ∀ k D, (adrs (L.set i (q, A ++ [(k, D)]))).Perm (D :: adrs L) := by
  induction h with
  | nil => intro i a e; simp at e
  | @cons q A a0 L as e l hr ih =>
    intro i a ea
    cases i with
    | zero =>
      simp at ea
      subst ea
      refine ⟨q, A, rfl, e, l, by simp [adrs], fun x hx => ⟨by simp only [adrs, List.mem_cons, List.mem_append]; exact .inr (.inl hx), fun n z => ?_⟩, fun n => ?_, fun H' A' a' h1 h2 h3 n => ?_, fun A' => rfl, fun k D => ?_⟩
      · simp only [adrs, List.nodup_cons, List.mem_append, not_or] at n
        exact n.1.1 (z ▸ hx)
      · simp only [adrs, List.nodup_cons] at n
        exact (List.nodup_append.mp n.2).1
      · simp only [adrs, List.nodup_cons, List.mem_append, not_or] at n
        refine .cons h1 h2 (hr.keep fun x hx => h3 x (by simp only [adrs, List.mem_cons, List.mem_append]; exact .inr (.inr hx)) (fun z => n.1.2 (z ▸ hx)) fun z => ?_)
        exact (List.nodup_append.mp n.2).2.2 x z x hx rfl
      · show (q :: ((A ++ [(k, D)]).map (·.2) ++ adrs L)).Perm (D :: q :: (A.map (·.2) ++ adrs L))
        rw [List.map_append, List.append_assoc]
        refine (List.Perm.cons q ?_).trans (List.Perm.swap D q _)
        exact List.perm_middle
    | succ i =>
      obtain ⟨q1, A1, g1, g2, g3, g4, g5, g6, g7, g8, g9⟩ := ih (i := i) (a := a) (by simpa using ea)
      have hq : ∀ {x : Addr}, x ∈ adrs L → x ∈ adrs ((q, A) :: L) := fun {x} hx => by simp only [adrs, List.mem_cons, List.mem_append]; exact .inr (.inr hx)
      have hn : (adrs ((q, A) :: L)).Nodup → (adrs L).Nodup := fun n => by
        simp only [adrs, List.nodup_cons] at n
        exact (List.nodup_append.mp n.2).2.1
      refine ⟨q1, A1, by simpa using g1, g2, g3, hq g4, fun x hx => ⟨hq (g5 x hx).1, fun n => (g5 x hx).2 (hn n)⟩, fun n => g6 (hn n), fun H' A' a' h1 h2 h3 n => ?_, fun A' => by simp only [List.set_cons_succ, List.map_cons, g8], fun k D => ?_⟩
      · have n2 := hn n
        simp only [adrs, List.nodup_cons, List.mem_append, not_or] at n
        have nd := (List.nodup_append.mp n.2).2.2
        simp only [List.set_cons_succ]
        refine .cons ((h3 q (by simp [adrs]) (fun z => n.1.2 (z ▸ g4)) fun z => n.1.2 (g5 q z).1).trans e) (l.keep fun x hx => h3 x (by simp only [adrs, List.mem_cons, List.mem_append]; exact .inr (.inl hx)) (fun z => nd x hx x (z ▸ g4) rfl) fun z => nd x hx x (g5 x z).1 rfl) ?_
        exact g7 H' A' a' h1 h2 (fun x hx => h3 x (hq hx)) n2
      · simp only [List.set_cons_succ, adrs]
        have p1 := g9 k D
        refine (List.Perm.cons q ((List.Perm.append_left _ p1).trans List.perm_middle)).trans (List.Perm.swap D q _)
/-- the index s, where nothing is too long -/
def meetG (xs : List (List (Int × List Int))) (s : Int) : Out Nat := match ixN xs.length s with
  | some j => if ∀ a ∈ xs, a.length < 16777216 ∧ ∀ p ∈ a, p.2.length < 16777216 then pure j else .stuck
  | none => .stuck
def meetS (xs : List (List (Int × List Int))) (j : Nat) (k n : Int) : List (List (Int × List Int)) := xs.set j (addTo (xs[j]?.getD []) k n)
theorem meetG_ok {xs : List (List (Int × List Int))} {s : Int} {P : Nat → Prop} {J : Err → Prop} (h : Post (meetG xs s) P J) : ∃ j, ixN xs.length s = some j ∧ (∀ a ∈ xs, a.length < 16777216 ∧ ∀ p ∈ a, p.2.length < 16777216) ∧ P j := by
  unfold meetG at h
  cases hj : ixN xs.length s with
  | none => rw [hj] at h; exact h.elim
  | some j =>
    rw [hj] at h
    by_cases c : ∀ a ∈ xs, a.length < 16777216 ∧ ∀ p ∈ a, p.2.length < 16777216
    · exact ⟨j, rfl, c, by simp only [if_pos c] at h; exact h⟩
    · simp only [if_neg c] at h
      exact h.elim
theorem ll_len {H : Hp} {A : List (Int × Addr)} {a : List (Int × List Int)} (h : LL H A a) : A.length = a.length := by
  induction h with
  | nil => rfl
  | cons _ _ ih => simp [ih]
theorem ld_len {H : Hp} {L : List (Addr × List (Int × Addr))} {a : List (List (Int × List Int))} (h : LD H L a) : L.length = a.length := by
  induction h with
  | nil => rfl
  | cons _ _ _ ih => simp [ih]
/-- x[s].setdefault(k, []).append(n) -/
theorem ws_meet {β : Type} {D : β → SOut} {b : List Stmt} {bs : List (List Stmt)} {x : Str} {p p2 p3 p4 p5 p6 p7 pos : Pos} {es ek en : Expr} {xs : List (List (Int × List Int))} {ms mk mn : Out Int} {f : List (List (Int × List Int)) → Out β} (C : XC X N sc k E) (i : Nat)
    (hs : WE X E B Γ es tInt.rl ms) (hk : WE X E B Γ ek tInt.rl mk) (hn : WE X E B (Γ.set i .any) en tInt.rl mn) (hr : ∀ a, WS X E B (Γ.set i (.on _ oMeet a)) (b :: bs) (f a) D)
    (hΓ : Γ[i]? = some (.on _ oMeet xs) := by rfl) (hN : N[i]? = some x := by rfl) (hv : Vis sc.sc x := by first | exact Or.inl rfl | exact Or.inr (Or.inl rfl) | exact Or.inr (Or.inr rfl))
    (hd : (x == ("__debug__" : Str)) = false := by decide) (hcd : (x == ("__classdict__" : Str)) = false := by decide) (hpi : PlainIx es := by intro _ _; rfl)
    (hM : M2 X (.Subscript (.Name x p) es p2) "setdefault" p3 ek (.List [] p4) p5 := by exact ⟨rfl, rfl, rfl, rfl⟩)
    (hbase : attributeBase (.Call (.Attribute (.Subscript (.Name x p) es p2) "setdefault" p3) [ek, .List [] p4] [] p5) "append" X.env (eval (.Call (.Attribute (.Subscript (.Name x p) es p2) "setdefault" p3) [ek, .List [] p4] [] p5) X.env) = eval (.Call (.Attribute (.Subscript (.Name x p) es p2) "setdefault" p3) [ek, .List [] p4] [] p5) X.env := by rfl)
    (hfew : ((backTo p7 (starEach (en :: []) X.env)).all (fun x => !x.1) && (backToKw p7 (keywordEach [] X.env)).all (fun x => x.1.isSome) && decide ((en :: []).length + ([] : List Keyword).length + (if ([] : List Keyword).isEmpty then 0 else 1) < 30)) = true := by rfl)
    (hline : (p6.endLine == p7.line) = true := by rfl) (hst : starEach (en :: []) X.env = (false, eval en X.env) :: starEach [] X.env := by rfl) (hsw : swapsWith (.Call (.Attribute (.Call (.Attribute (.Subscript (.Name x p) es p2) "setdefault" p3) [ek, .List [] p4] [] p5) "append" p6) [en] [] p7) none pos.line X.env = pure false := by rfl) :
    WS X E B Γ ((.Expr (.Call (.Attribute (.Call (.Attribute (.Subscript (.Name x p) es p2) "setdefault" p3) [ek, .List [] p4] [] p5) "append" p6) [en] [] p7) pos :: b) :: bs) (ms >>= fun s => meetG xs s >>= fun j => mk >>= fun kk => mn >>= fun n => pure (meetS xs j kk n) >>= f) D := fun σ F H ω En env q => by
  refine sK_cons ⟨_, ps_expr (pe_bm PySem.F.plainAttrs_list PySem.F.slot_list_append PySem.F.type_list_append mt_append (pe_dsetd (pe_ix ix_tup (pv_ C hN hv hd hcd) pe_s hpi) pe_s (pe_lst pa_nil) hM) (pa_cons pe_s pa_nil hst) hbase hfew hline hst) hsw, ?_⟩
  obtain ⟨v, hσ, pp, L, rfl, hp, hl, hnd, hS⟩ := env.slot i _ hΓ
  have hσ := join_some hσ
  have hnd2 : (adrs L).Nodup := (List.nodup_cons.mp hnd).2
  have hpn : pp ∉ adrs L := (List.nodup_cons.mp hnd).1
  refine ⟨_, hσ, hs σ F H ω _ env (q.bind.imp fun s q v1 F1 H1 s1 r1 => ?_)⟩
  have env1 := env.stp s1
  obtain ⟨j, hj, hlen, q⟩ := meetG_ok q.bind
  have hjx : j < xs.length := (ixN_seq hj).2.1
  have hg : xs[j]? = some xs[j] := List.getElem?_eq_getElem hjx
  obtain ⟨dq, A, g1, g2, g3, g4, g5, g6, g7, g8, g9⟩ := ld_at hl hg
  have hH1 : ∀ y, ω y = some i → H1 y = H y := fun y hy => same_at s1.hh (env.own y i hy).2.1
  have hSH : ∀ y ∈ pp :: adrs L, H1 y = H y := fun y hy => hH1 y (hS y hy)
  have hp1 : H1 pp = some (.tup (L.map fun x => V.ref x.1)) := (hSH pp (by simp)).trans hp
  refine ⟨pp, _, s, .ref dq, rfl, r1, SqT.of hp1, ?_, ?_⟩
  · unfold atI
    rw [List.length_map, ld_len hl, hj]
    show (L.map fun x => V.ref x.1)[j]? = some (V.ref dq)
    rw [List.getElem?_map, g1]
    rfl
  have hd1 : H1 dq = some (.dK (kvA A)) := (hSH dq (by simp [g4])).trans g2
  refine ⟨dq, rfl, .inl ⟨_, .inl hd1⟩, hk σ F1 H1 ω _ env1 (q.bind.imp fun kk q y F2 H2 s2 ry => ⟨le_line (by simp), fun D hD => ?_⟩)⟩
  have env2 := env1.stp s2
  have hSH2 : ∀ y ∈ pp :: adrs L, H2 y = H y := fun y hy => (same_at s2.hh (env1.own y i (hS y hy)).2.1).trans (hSH y hy)
  have hDn : ∀ y ∈ pp :: adrs L, y ≠ D := fun y hy z => (env2.own y i (hS y hy)).2.1 (z ▸ hD)
  have hωD : ω D = none := by
    cases h : ω D with
    | none => rfl
    | some j => exact absurd hD (env2.own D j h).2.1
  have hBD : B.H D = none := by
    cases h : B.H D with
    | none => rfl
    | some o => exact absurd hD (env2.base.there D (by rw [h]; exact fun z => nomatch z))
  have hFD : F2 D = none := s2.fh.free hD
  have env3 : EnvOk X.K B Γ σ F2 (upd H2 D (.lst [])) ω := env_updN env2 hωD hBD hFD
  have hd3 : upd H2 D (.lst []) dq = some (.dK (kvA A)) := by rw [upd_ne (hDn dq (by simp [g4])), hSH2 dq (by simp [g4])]; exact g2
  have hkl : (kvA A).length < sizeLine := by
    have h := (hlen _ (List.getElem_mem hjx)).1
    rw [List.length_map, ll_len g3, sizeLine_eq]
    exact h
  refine ⟨_, ki kk, hd3, ry, hkl, ?_, ?_⟩
  · -- the key is there
    intro v hv
    have hset : L.set j (dq, A) = L := by
      refine List.ext_getElem? fun m => ?_
      by_cases c : j = m
      · subst c
        rw [List.getElem?_set_self (List.getElem?_eq_some_iff.mp g1).1, g1]
      · rw [List.getElem?_set_ne c]
    have hex : ∃ (l : Addr) (vs : List Int), v = .ref l ∧ H l = some (.lst (vs.map V.int)) ∧ l ∈ A.map (·.2) ∧ vs.length < 16777216 := by
      rcases ll_find kk 0 g3 with ⟨h1, _⟩ | ⟨l, vs, h1, h2, h3, ⟨pq, hpq, hpq2⟩, _⟩
      · rw [h1] at hv; cases hv
      · rw [h1] at hv
        cases hv
        exact ⟨l, vs, rfl, h2, h3, by rw [← hpq2]; exact (hlen _ (List.getElem_mem hjx)).2 _ hpq⟩
    obtain ⟨l, vs, rfl, h2, h3, h5⟩ := hex
    have hlL : l ∈ adrs L := (g5 l h3).1
    have hl3 : upd H2 D (.lst []) l = some (.lst (vs.map V.int)) := by rw [upd_ne (hDn l (by simp [hlL])), hSH2 l (by simp [hlL])]; exact h2
    refine ⟨.inl ⟨rfl, _, SqL.of hl3⟩, hn σ F2 _ ω _ (env_any env3) (q.bind.imp fun n q y2 F4 H4 s4 ry2 => ?_)⟩
    have env4 := env3.stp s4
    have hSH4 : ∀ y ∈ pp :: adrs L, H4 y = H y := fun y hy => by
      rw [same_at s4.hh (env3.own y i (hS y hy)).2.1, upd_ne (hDn y hy), hSH2 y hy]
    have h4 : ∀ H' : Hp, H' l = some (.lst ((vs ++ [n]).map V.int)) → (∀ x ∈ A.map (·.2), x ≠ l → H' x = H x) → (A.map (·.2)).Nodup → LL H' A (addTo xs[j] kk n) := by
      rcases ll_find kk n g3 with ⟨h1, _⟩ | ⟨l', vs', h1, h2', h3', _, h4⟩
      · rw [h1] at hv; cases hv
      · rw [h1] at hv
        cases hv
        rw [h2] at h2'
        have ev : vs' = vs := by
          have := (HO.lst.inj (Option.some.inj h2'))
          exact (int_map_inj this).symm
        subst ev
        exact h4
    have e2 : y2 = .int n := ry2
    refine ⟨l, vs.map V.int, y2, rfl, rfl, (hSH4 l (by simp [hlL])).trans h2, by rw [List.length_map, sizeLine_eq]; exact h5, ?_⟩
    have H5 : upd H4 l (.lst (vs.map V.int ++ [y2])) l = some (.lst ((vs ++ [n]).map V.int)) := by rw [upd_same, e2, List.map_append] <;> rfl
    have keep5 : ∀ x, x ≠ l → upd H4 l (.lst (vs.map V.int ++ [y2])) x = H4 x := fun x hx => upd_ne hx
    obtain ⟨ω', _, env5⟩ := env_mut (.on _ oMeet (meetS xs j kk n)) (fun p => ω p = some i) env4 hσ (H' := upd H4 l (.lst (vs.map V.int ++ [y2]))) (fun p _ hp => keep5 p fun z => hp (z ▸ hS l (by simp [hlL]))) (fun p hp => by
        by_cases c : p = l
        · rw [c, H5]; exact fun z => nomatch z
        · rw [keep5 p c]; exact hp) (fun p hp => ⟨(env4.own p i hp).1, by
        by_cases c : p = l
        · rw [c, H5]; exact fun z => nomatch z
        · rw [keep5 p c]; exact (env4.own p i hp).2.1, .inl hp⟩) (by
        refine ⟨_, rfl, pp, L, rfl, ?_, ?_, hnd, hS⟩
        · rw [keep5 pp (fun z => hpn (z ▸ hlL)), hSH4 pp (by simp)]; exact hp
        · have := g7 (upd H4 l (.lst (vs.map V.int ++ [y2]))) A (addTo xs[j] kk n) (by rw [keep5 dq (fun z => (g5 l h3).2 hnd2 z.symm), hSH4 dq (by simp [g4])]; exact g2)
            (h4 _ H5 (fun x hx hxl => by rw [keep5 x hxl]; exact hSH4 x (by simp [(g5 x hx).1])) (g6 hnd2)) (fun x hx hxq hxA => by rw [keep5 x (fun z => hxA (z ▸ h3))]; exact hSH4 x (by simp [hx])) hnd2
          rw [hset] at this
          unfold meetS
          rw [hg]
          exact this)
    exact hr _ σ F4 _ ω' En env5 (Post.imp q fun b z => EndOk.up z ((s1.ff.trans s2.ff).trans s4.ff))
  · -- a new key
    intro hv
    have h4 : ∀ n (D : Addr) (H' : Hp), H' D = some (.lst ([n].map V.int)) → (∀ x ∈ A.map (·.2), H' x = H x) → LL H' (A ++ [(kk, D)]) (addTo xs[j] kk n) := fun n => by
      rcases ll_find kk n g3 with ⟨_, h2⟩ | ⟨l, vs, h1, _⟩
      · exact h2
      · rw [h1] at hv; cases hv
    have hput : putK (kvA A) (ki kk) (V.ref D) = kvA (A ++ [(kk, D)]) := by
      rw [putK_new _ hv]
      simp [kvA]
    rw [hput]
    have hdD : dq ≠ D := hDn dq (by simp [g4])
    have hD3 : upd (upd H2 D (.lst [])) dq (.dK (kvA (A ++ [(kk, D)]))) D = some (.lst []) := by rw [upd_ne hdD.symm, upd_same]
    have keep3 : ∀ x, x ≠ dq → upd (upd H2 D (.lst [])) dq (.dK (kvA (A ++ [(kk, D)]))) x = upd H2 D (.lst []) x := fun x hx => upd_ne hx
    obtain ⟨ω3, hω3, env3'⟩ := env_mut .any (fun p => ω p = some i ∨ p = D) env2 hσ (H' := upd (upd H2 D (.lst [])) dq (.dK (kvA (A ++ [(kk, D)])))) (fun p hp hp2 => by
        rw [keep3 p (fun z => hp2 (z ▸ hS dq (by simp [g4]))), upd_ne (fun z : p = D => hp (by rw [z]; exact hD))]) (fun p hp => by
        by_cases c : p = dq
        · rw [c, upd_same]; exact fun z => nomatch z
        · rw [keep3 p c, upd_ne (fun z : p = D => hp (by rw [z]; exact hD))]; exact hp) (fun p hp => by
        rcases hp with hp | hp
        · refine ⟨(env2.own p i hp).1, ?_, .inl hp⟩
          by_cases c : p = dq
          · rw [c, upd_same]; exact fun z => nomatch z
          · rw [keep3 p c]
            exact (env3.own p i hp).2.1
        · subst hp
          exact ⟨hFD, (by rw [hD3]; exact fun z => nomatch z), .inr hD⟩) trivial
    refine ⟨.inl ⟨rfl, [], SqL.of hD3⟩, hn σ F2 _ ω3 _ env3' (q.bind.imp fun n q y2 F4 H4 s4 ry2 => ?_)⟩
    have env4 := env3'.stp s4
    have e2 : y2 = .int n := ry2
    have ho3 : ∀ p, (ω p = some i ∨ p = D) → H4 p = upd (upd H2 D (.lst [])) dq (.dK (kvA (A ++ [(kk, D)]))) p := fun p hp => same_at s4.hh (env3'.own p i ((hω3 p).mpr hp)).2.1
    have hD4 : H4 D = some (.lst []) := (ho3 D (.inr rfl)).trans hD3
    have hSH4 : ∀ y ∈ pp :: adrs L, y ≠ dq → H4 y = H y := fun y hy hq => by rw [ho3 y (.inl (hS y hy)), keep3 y hq, upd_ne (hDn y hy), hSH2 y hy]
    refine ⟨D, [], y2, rfl, rfl, hD4, by rw [sizeLine_eq]; simp, ?_⟩
    have H5 : upd H4 D (.lst ([] ++ [y2])) D = some (.lst ([n].map V.int)) := by rw [upd_same, e2] <;> rfl
    have keep5 : ∀ x, x ≠ D → upd H4 D (.lst ([] ++ [y2])) x = H4 x := fun x hx => upd_ne hx
    obtain ⟨ω', _, env5⟩ := env_mut (.on _ oMeet (meetS xs j kk n)) (fun p => ω p = some i ∨ p = D) env4 hσ (H' := upd H4 D (.lst ([] ++ [y2]))) (fun p _ hp => keep5 p fun z => hp ((hω3 p).mpr (.inr z))) (fun p hp => by
        by_cases c : p = D
        · rw [c, H5]; exact fun z => nomatch z
        · rw [keep5 p c]; exact hp) (fun p hp => by
        have hp' := (hω3 p).mpr hp
        refine ⟨(env4.own p i hp').1, ?_, .inl hp'⟩
        by_cases c : p = D
        · rw [c, H5]; exact fun z => nomatch z
        · rw [keep5 p c]; exact (env4.own p i hp').2.1) (by
        have hpm := g9 kk D
        refine ⟨_, rfl, pp, L.set j (dq, A ++ [(kk, D)]), rfl, ?_, ?_, ?_, fun x hx => ?_⟩
        · rw [keep5 pp (hDn pp (by simp)), hSH4 pp (by simp) (fun z => hpn (z ▸ g4)), g8]; exact hp
        · have := g7 (upd H4 D (.lst ([] ++ [y2]))) (A ++ [(kk, D)]) (addTo xs[j] kk n) (by rw [keep5 dq hdD, ho3 dq (.inl (hS dq (by simp [g4]))), upd_same])
            (h4 n D _ H5 (fun x hx => by rw [keep5 x (hDn x (by simp [(g5 x hx).1]))]; exact hSH4 x (by simp [(g5 x hx).1]) ((g5 x hx).2 hnd2))) (fun x hx hxq hxA => by rw [keep5 x (hDn x (by simp [hx]))]; exact hSH4 x (by simp [hx]) hxq) hnd2
          unfold meetS
          rw [hg]
          exact this
        · refine (List.Perm.cons pp hpm).nodup_iff.mpr ?_
          refine List.nodup_cons.mpr ⟨fun z => ?_, List.nodup_cons.mpr ⟨fun z => hDn D (by simp [z]) rfl, hnd2⟩⟩
          rcases List.mem_cons.mp z with z | z
          · exact hDn pp (by simp) z
          · exact hpn z
        · rcases List.mem_cons.mp hx with z | z
          · exact .inl (hS x (by simp [z]))
          · rcases List.mem_cons.mp (hpm.mem_iff.mp z) with z | z
            · exact .inr z
            · exact .inl (hS x (by simp [z])))
    rw [List.set_set] at env5
    exact hr _ σ F4 _ ω' En env5 (Post.imp q fun b z => EndOk.up z ((s1.ff.trans s2.ff).trans s4.ff))
/-- ({}, {}) -/
theorem wo_meet0 {p1 p2 pos : Pos} {j : Nat} (h1 : starEach (.Dict [] [] p1 :: .Dict [] [] p2 :: []) X.env = (false, eval (.Dict [] [] p1) X.env) :: starEach (.Dict [] [] p2 :: []) X.env := by rfl) (h2 : starEach (.Dict [] [] p2 :: []) X.env = (false, eval (.Dict [] [] p2) X.env) :: starEach [] X.env := by rfl) :
    WO X E B Γ (.Tuple [.Dict [] [] p1, .Dict [] [] p2] j pos) oMeet (pure [[], []]) := fun σ F H ω Q en q => by
  refine ⟨_, pe_tup (pa_cons pe_dnewK (pa_cons pe_dnewK pa_nil h2) h1), fun q0 hq0 q1 hq1 => ⟨le_line (by simp), fun p hp => ?_⟩⟩
  have n01 : q1 ≠ q0 := fun z => by rw [z, upd_same] at hq1; cases hq1
  have hq1' : H q1 = none := by rw [upd_ne n01] at hq1; exact hq1
  have np1 : p ≠ q1 := fun z => by rw [z, upd_same] at hp; cases hp
  have np0 : p ≠ q0 := fun z => by rw [z, upd_ne n01.symm, upd_same] at hp; cases hp
  have hp' : H p = none := by rw [upd_ne np1, upd_ne np0] at hp; exact hp
  have s1 := Stp.newH (o := .dK []) en.fh hq0
  have s2 := s1.trans (Stp.newH (o := .dK []) s1.fh hq1)
  have s3 := s2.trans (Stp.newH (o := .tup [.ref q0, .ref q1]) s2.fh hp)
  have a0 : upd (upd (upd H q0 (.dK [])) q1 (.dK [])) p (.tup [.ref q0, .ref q1]) q0 = some (.dK []) := by rw [upd_ne np0.symm, upd_ne n01.symm, upd_same]
  have a1 : upd (upd (upd H q0 (.dK [])) q1 (.dK [])) p (.tup [.ref q0, .ref q1]) q1 = some (.dK []) := by rw [upd_ne np1.symm, upd_same]
  refine q (.ref p) F _ (fun x => x = p ∨ x = q0 ∨ x = q1) s3 (fun x hx => ?_) ⟨p, [(q0, []), (q1, [])], rfl, upd_same, .cons a0 .nil (.cons a1 .nil .nil), ?_, fun x hx => ?_⟩
  · rcases hx with rfl | rfl | rfl
    · exact ⟨en.fh.free hp', (by rw [upd_same]; exact fun z => nomatch z), hp'⟩
    · exact ⟨en.fh.free hq0, (by rw [a0]; exact fun z => nomatch z), hq0⟩
    · exact ⟨en.fh.free hq1', (by rw [a1]; exact fun z => nomatch z), hq1'⟩
  · simp [adrs, np0, np1, n01.symm]
  · simpa [adrs] using hx
end SL

set_option Elab.async false
set_option linter.all false
set_option maxRecDepth 100000
set_option maxHeartbeats 2000000
/-! SLq: frozen data. -/
namespace SL
open PySem PySem.Spec PyProof.Rows L2
variable {X : Cx} {N : List Str} {sc : Scp} {k : Nat} {E : XK} {B : Bs} {Γ : List Slot}
mutual
/-- all lists are tuples -/
def frzD : PyData → PyData
  | .list xs => .tuple (frzDs xs)
  | .tuple xs => .tuple (frzDs xs)
  | d => d
def frzDs : List PyData → List PyData
  | [] => []
  | x :: xs => frzD x :: frzDs xs
end
theorem frzDs_map (xs : List PyData) : frzDs xs = xs.map frzD := by
  induction xs with
  | nil => rfl
  | cons x xs ih => rw [frzDs, ih]; rfl
/-- data of depth n at most -/
def tDn (n : Nat) : Ty PyData := ⟨fun K F v a => Dp K F v a ∧ a.depth ≤ n, fun s h => ⟨dp_mono s h.1, h.2⟩⟩
theorem fa_dn {K : PySem.W.Frag} {F : Hp} {n : Nat} : ∀ {xs : List PyData} {vs : List V}, DpAll K F vs xs → PyData.depthAll xs ≤ n → Fa2 ((tDn n).rel K F) vs xs
  | [], _, h, _ => by cases h; exact .nil
  | x :: xs, _, h, hd => by
    cases h with
    | cons h1 h2 =>
      simp only [PyData.depthAll] at hd
      exact .cons ⟨h1, by omega⟩ (fa_dn h2 (by omega))
theorem dn_list {K : PySem.W.Frag} {F : Hp} {n : Nat} {v : V} {xs : List PyData} (h : (tDn n).rel K F v (.list xs)) : ∃ m, n = m + 1 ∧ (tLstQ (tDn m)).rel K F v xs := by
  obtain ⟨h, hd⟩ := h
  simp only [PyData.depth] at hd
  refine ⟨n - 1, by omega, ?_⟩
  cases h with
  | lst q r => exact ⟨_, _, rfl, q, fa_dn r (by omega)⟩
theorem dn_tuple {K : PySem.W.Frag} {F : Hp} {n : Nat} {v : V} {xs : List PyData} (h : (tDn n).rel K F v (.tuple xs)) : ∃ m, n = m + 1 ∧ (tTup (tDn m)).rel K F v xs := by
  obtain ⟨h, hd⟩ := h
  simp only [PyData.depth] at hd
  refine ⟨n - 1, by omega, ?_⟩
  cases h with
  | tup q r => exact ⟨_, _, rfl, q, fa_dn r (by omega)⟩
theorem depth_list {xs : List PyData} {n : Nat} (h : (PyData.list xs).depth ≤ n) : ∃ m, n = m + 1 := ⟨n - 1, by simp only [PyData.depth] at h; omega⟩
theorem depth_tuple {xs : List PyData} {n : Nat} (h : (PyData.tuple xs).depth ≤ n) : ∃ m, n = m + 1 := ⟨n - 1, by simp only [PyData.depth] at h; omega⟩
/-- a slot's fact told otherwise -/
theorem ws_conv (i : Nat) {β : Type} {D : β → SOut} {bs : List (List Stmt)} {m : Out β} {α γ : Type} {T : Ty α} {U : Ty γ} {a : α} {b : γ} (h : ∀ K F v, T.rel K F v a → U.rel K F v b) (hΓ : Γ[i]? = some (iS T a)) (hr : WS X E B (Γ.set i (iS U b)) bs m D) : WS X E B Γ bs m D := fun σ F H ω En en q => by
  refine hr σ F H ω En ⟨en.base, by rw [List.length_set, en.len], en.own, fun j s hj => ?_⟩ q
  by_cases c : i = j
  · subst c
    rw [List.getElem?_set_self (List.getElem?_eq_some_iff.mp hΓ).1] at hj
    cases hj
    obtain ⟨v, e, r⟩ := en.slot i _ hΓ
    exact ⟨v, e, h _ _ _ r⟩
  · rw [List.getElem?_set_ne c] at hj
    exact en.slot j s hj
/-- what a slot's data promise -/
theorem ws_have (i : Nat) {β : Type} {D : β → SOut} {bs : List (List Stmt)} {m : Out β} {α : Type} {T : Ty α} {a : α} {P : Prop} (h : ∀ K F v, T.rel K F v a → P) (hΓ : Γ[i]? = some (iS T a)) (hr : P → WS X E B Γ bs m D) : WS X E B Γ bs m D := fun σ F H ω En en q => by
  obtain ⟨v, e, r⟩ := en.slot i _ hΓ
  exact hr (h _ _ _ r) σ F H ω En en q
theorem mapO_pure {α β : Type} (f : α → β) : ∀ xs : List α, mapO (fun x => pure (f x)) xs = pure (xs.map f)
  | [] => rfl
  | x :: xs => by
    unfold mapO
    rw [mapO_pure f xs]
    rfl
theorem dp_D : DpT tD (fun d => d) := fun K F v a h => h
theorem dp_dn {n : Nat} : DpT (tDn n) (fun d => d) := fun K F v a h => h.1
theorem tupD {K : PySem.W.Frag} {F : Hp} {v : V} {a : List PyData} (h : (tTup tD).rel K F v a) : tD.rel K F v (.tuple a) := by
  have := dp_tup dp_D K F v a h
  simp only [List.map_id'] at this
  exact this
/-- where the data are of a form -/
theorem WE.as {e : Expr} {α β : Type} {T : Ty α} {U : Ty β} {m : Out α} {f : α → Out β} (h : WE X E B Γ e T.rl m) (hf : ∀ a b, f a = .ok b → ∀ K F v, T.rel K F v a → U.rel K F v b) (he : ∀ a x, f a ≠ .err x) : WE X E B Γ e U.rl (m >>= f) := fun σ F H ω Q en q =>
  h σ F H ω Q en (q.bind.imp fun a q v F' H' s r => by
    cases e : f a with
    | ok b => rw [e] at q; exact q v F' H' s (hf a b e _ _ _ r)
    | err x => exact absurd e (he a x)
    | stuck => rw [e] at q; exact q.elim)
/-- data that are ints -/
def asInt : PyData → Out Int
  | .int i => pure i
  | _ => .stuck
def asAll {α : Type} (f : PyData → Out α) : List PyData → Out (List α)
  | [] => pure []
  | x :: xs => match f x, asAll f xs with
    | .ok a, .ok as => .ok (a :: as)
    | _, _ => .stuck
def asTup {α : Type} (f : PyData → Out α) : PyData → Out (List α)
  | .tuple xs => asAll f xs
  | _ => .stuck
def asT2 {α β : Type} (f : PyData → Out α) (g : PyData → Out β) : PyData → Out (α × β)
  | .tuple [x, y] => match f x, g y with
    | .ok a, .ok b => .ok (a, b)
    | _, _ => .stuck
  | _ => .stuck
/-- f reads the data of T -/
structure As {α : Type} (f : PyData → Out α) (T : Ty α) : Prop where
  ok : ∀ d a, f d = .ok a → ∀ K F v, Dp K F v d → T.rel K F v a
  ne : ∀ d x, f d ≠ .err x
theorem as_int : As asInt tInt := ⟨fun d a e K F v h => by
  cases h <;> simp [asInt] at e
  cases e
  rfl, fun d x e => by cases d <;> simp [asInt] at e <;> cases e⟩
theorem as_all {α : Type} {f : PyData → Out α} {T : Ty α} (hf : As f T) : ∀ (xs : List PyData) (as : List α), asAll f xs = .ok as → ∀ K F vs, DpAll K F vs xs → Fa2 (T.rel K F) vs as
  | [], as, e, K, F, vs, h => by
    cases e
    cases h
    exact .nil
  | x :: xs, as, e, K, F, vs, h => by
    unfold asAll at e
    cases e1 : f x with
    | ok a =>
      cases e2 : asAll f xs with
      | ok as' =>
        simp only [e1, e2] at e
        cases e
        cases h with
        | cons h1 h2 => exact .cons (hf.ok x a e1 K F _ h1) (as_all hf xs as' e2 K F _ h2)
      | err z => simp only [e1, e2] at e; cases e
      | stuck => simp only [e1, e2] at e; cases e
    | err z => simp only [e1] at e; cases e
    | stuck => simp only [e1] at e; cases e
theorem asAll_ne {α : Type} (f : PyData → Out α) (xs : List PyData) (x : Err) : asAll f xs ≠ .err x := by
  intro e
  cases xs with
  | nil => cases e
  | cons y ys =>
    unfold asAll at e
    split at e <;> cases e
theorem as_tup {α : Type} {f : PyData → Out α} {T : Ty α} (hf : As f T) : As (asTup f) (tTup T) where
  ok := fun d a e K F v h => by
    cases h with
    | tup q r => exact ⟨_, _, rfl, q, as_all hf _ _ e K F _ r⟩
    | _ => cases e
  ne := fun d x e => by
    cases d with
    | tuple xs => exact asAll_ne f xs x e
    | _ => cases e
end SL
namespace SL
open PySem PySem.Spec PyProof.Rows L2
variable {X : Cx} {N : List Str} {sc : Scp} {k : Nat} {E : XK} {B : Bs} {Γ : List Slot}
theorem we_as {e : Expr} {β : Type} {U : Ty β} {m : Out PyData} {f : PyData → Out β} (a : As f U) (h : WE X E B Γ e tD.rl m) : WE X E B Γ e U.rl (m >>= f) := h.as (fun d b e K F v r => a.ok d b e K F v r) a.ne
/-- what is known not to be None -/
def unO {α : Type} : Option α → Out α
  | some x => pure x
  | none => .stuck
theorem we_un {e : Expr} {α : Type} {T : Ty α} {m : Out (Option α)} (h : WE X E B Γ e (tOpt T).rl m) : WE X E B Γ e T.rl (m >>= unO) := h.as (fun a b e K F v r => by
  cases a with
  | none => cases e
  | some x => cases e; exact r.2) (fun a x e => by cases a <;> cases e)
end SL
namespace SL
open PySem PySem.Spec PyProof.Rows L2
variable {X : Cx} {N : List Str} {sc : Scp} {k : Nat} {E : XK} {B : Bs} {Γ : List Slot}
theorem ty_lstq {α : Type} {T : Ty α} : TyR (tLstQ T).rl fun _ => "list" := fun K F H v a s ⟨p, vs, e, q, r⟩ => by rw [e]; exact tyx_lst (s.seq q)
def isL : PyData → Bool
  | .list _ => true
  | _ => false
def isT : PyData → Bool
  | .tuple _ => true
  | _ => false
theorem kit_L : ∀ d, kitB (tyD d) "list" = some (isL d)
  | .none => by show kitB "NoneType" "list" = some false; decide +kernel
  | .bool _ => by show kitB "bool" "list" = some false; decide +kernel
  | .int _ => by show kitB "int" "list" = some false; decide +kernel
  | .str _ => by show kitB "str" "list" = some false; decide +kernel
  | .list _ => by show kitB "list" "list" = some true; decide +kernel
  | .tuple _ => by show kitB "tuple" "list" = some false; decide +kernel
  | .dict _ => by show kitB "dict" "list" = some false; decide +kernel
theorem kit_T : ∀ d, kitB (tyD d) "tuple" = some (isT d)
  | .none => by show kitB "NoneType" "tuple" = some false; decide +kernel
  | .bool _ => by show kitB "bool" "tuple" = some false; decide +kernel
  | .int _ => by show kitB "int" "tuple" = some false; decide +kernel
  | .str _ => by show kitB "str" "tuple" = some false; decide +kernel
  | .list _ => by show kitB "list" "tuple" = some false; decide +kernel
  | .tuple _ => by show kitB "tuple" "tuple" = some true; decide +kernel
  | .dict _ => by show kitB "dict" "tuple" = some false; decide +kernel
theorem ty_dn {n : Nat} : TyR (tDn n).rl tyD := fun K F H v a s h => ty_D K F H v a s h.1
theorem WE.dn {e : Expr} {n : Nat} {m : Out PyData} (h : WE X E B Γ e (tDn n).rl m) : WE X E B Γ e tD.rl m := fun σ F H ω Q en q => h σ F H ω Q en (q.imp fun a q v F' H' s r => q v F' H' s r.1)
def dnO (n : Nat) (d : PyData) : Out PyData := if d.depth ≤ n then pure d else .stuck
theorem we_dn {e : Expr} {n : Nat} {m : Out PyData} (h : WE X E B Γ e tD.rl m) : WE X E B Γ e (tDn n).rl (m >>= dnO n) := h.as (fun a b e K F v r => by
  unfold dnO at e
  by_cases c : a.depth ≤ n
  · rw [if_pos c] at e
    cases e
    exact ⟨r, c⟩
  · rw [if_neg c] at e
    cases e) (fun a x e => by
  unfold dnO at e
  by_cases c : a.depth ≤ n
  · rw [if_pos c] at e
    cases e
  · rw [if_neg c] at e
    cases e)
end SL

set_option Elab.async false
set_option linter.all false
set_option maxRecDepth 100000
set_option maxHeartbeats 2000000
/-! SLr: the law's own call, where defs may raise. -/
namespace SL
open PySem PySem.Spec PyProof.Rows L2
theorem walk_law {l : PySem.W.OpenLaw} {n k : Nat} {q : Program} {loose : List Str} {XP : (Str → Option Value) → Heap → Prop} {YP : World → Heap → Prop} {d : DefRec} {x : Str} {m : List Int → Out Bool}
    (hn : l.most = some n) (hn2 : n ≤ sizeLine) (hdf : d.params.defaults = []) (hr : Room k callerA)
    (F : ∀ (w : World) (mg : Str → Option Value) (fa : Addr) (h : Heap), YP w h → h.Ns mainGlobals mg → mg d.name = some (.ref fa) →
      ∃ (K : PySem.W.Frag) (fd : FuncData), K.In h ∧ (∀ (s : Shared) (u : Value), BindsTo s fd ⟨[u], []⟩ [(x, u)]) ∧
        ∀ base : Heap, K.In base → base.Ns mainGlobals mg → FnOk l.prog w K mg base (L2.CX l.prog w) k fa fd [x] (Sps (pC (tLstQ tInt) pN) (fun i => m i.1) tBool K))
    (M : ∀ ns : List Int, ns.length ≤ n → m ns = pure true) :
    PySem.W.WalkO q loose XP YP l.row.toRowW d [] (fun f vs => PySem.call f vs) := by
  refine Att.attach_call hn hdf fun w s₀ s₁ mg mb fa o pm cd doc a vs ns G Y ho hd hcd hmg hobj hints hlen hg => ?_
  obtain ⟨K, fd, KX, hb, hF⟩ := F w mg fa _ Y G.T.g hmg
  refine law_call KX G.T.g G.T.b G.T.builtins G.T.nolimit hg hobj hints (Nat.le_trans hlen hn2) hr hF hb (fun H hO hS => ?_) (fun H e s' ⟨_, _, _, _, _, _, _, _, _, _, _, _, h⟩ => h)
  refine ⟨(ns, ()), H, Same.refl H, ⟨.ref a, [], rfl, ⟨a, _, rfl, hS, int_fa2 ns⟩, rfl⟩, ?_⟩
  show Post (m ns) _ _
  rw [M ns hlen]
  exact fun v F' H' _ h => h
end SL

set_option Elab.async false
set_option linter.all false
set_option maxRecDepth 100000
set_option maxHeartbeats 2000000
/-! SM: plain mathematics of outcomes. -/
namespace SM
open PySem PySem.Spec PyProof.Rows L2 SL
theorem pbind {α β : Type} (a : α) (f : α → Out β) : ((pure a : Out α) >>= f) = f a := rfl
theorem bindp {α : Type} (m : Out α) : (m >>= fun a => pure a) = m := by cases m <;> rfl
/-! ### loops -/
theorem forO_inv {α S : Type} {f : S → α → Out S} (I : Nat → S → Prop) : ∀ (xs : List α) (k : Nat) (s : S), I k s → (∀ i s x, xs[i]? = some x → I (k + i) s → ∃ s', f s x = pure s' ∧ I (k + i + 1) s') → ∃ s', forO f xs s = pure s' ∧ I (k + xs.length) s'
  | [], k, s, h, _ => ⟨s, rfl, h⟩
  | x :: xs, k, s, h, hs => by
    obtain ⟨s1, e1, h1⟩ := hs 0 s x rfl h
    obtain ⟨s2, e2, h2⟩ := forO_inv I xs (k + 1) s1 h1 (fun i s y hy hi => by
      have := hs (i + 1) s y (by simpa using hy) (by rw [show k + (i + 1) = k + 1 + i by omega]; exact hi)
      rw [show k + (i + 1) + 1 = k + 1 + i + 1 by omega] at this
      exact this)
    refine ⟨s2, ?_, by rw [List.length_cons, show k + (xs.length + 1) = k + 1 + xs.length by omega]; exact h2⟩
    unfold forO
    rw [e1, pbind]
    exact e2
/-- from 0 -/
theorem forO_inv0 {α S : Type} {f : S → α → Out S} (I : Nat → S → Prop) (xs : List α) (s : S) (h : I 0 s) (hs : ∀ i s x, xs[i]? = some x → I i s → ∃ s', f s x = pure s' ∧ I (i + 1) s') : ∃ s', forO f xs s = pure s' ∧ I xs.length s' := by
  obtain ⟨s', e, h'⟩ := forO_inv I xs 0 s h (fun i s x hx hi => by
    rw [Nat.zero_add] at hi ⊢
    exact hs i s x hx hi)
  exact ⟨s', e, by rw [Nat.zero_add] at h'; exact h'⟩
theorem forO_foldl {α S : Type} {f : S → α → Out S} {g : S → α → S} : ∀ (xs : List α) (s : S), (∀ s x, x ∈ xs → f s x = pure (g s x)) → forO f xs s = pure (xs.foldl g s)
  | [], s, _ => rfl
  | x :: xs, s, h => by
    unfold forO
    rw [h s x (by simp), pbind, forO_foldl xs (g s x) fun s y hy => h s y (by simp [hy])]
    rfl
theorem while_inv {S : Type} {c : S → Out Bool} {f : S → Out S} {Q : S → Prop} (I : Nat → S → Prop) (h : ∀ m s, I m s → (c s = pure false ∧ Q s) ∨ (∃ m', m' < m ∧ c s = pure true ∧ ∃ s', f s = pure s' ∧ I m' s')) :
    ∀ (n m : Nat) (s : S), m < n → I m s → ∃ s', whileO c f n s = pure s' ∧ Q s'
  | 0, m, s, hm, _ => absurd hm (by omega)
  | n + 1, m, s, hm, hi => by
    unfold whileO
    rcases h m s hi with ⟨e, q⟩ | ⟨m', hm', e, s', es, hi'⟩
    · rw [e]
      exact ⟨s, rfl, q⟩
    · rw [e, pbind, if_pos rfl, es, pbind]
      exact while_inv I h n m' s' (by omega) hi'
theorem mapO_ok {α β : Type} {f : α → Out β} {g : α → β} : ∀ xs : List α, (∀ x ∈ xs, f x = pure (g x)) → mapO f xs = pure (xs.map g)
  | [], _ => rfl
  | x :: xs, h => by
    unfold mapO
    rw [h x (by simp), mapO_ok xs fun y hy => h y (by simp [hy])]
    rfl
theorem mapO_ex {α β : Type} {f : α → Out β} : ∀ xs : List α, (∀ x ∈ xs, ∃ y, f x = pure y) → ∃ ys, mapO f xs = pure ys ∧ ys.length = xs.length ∧ ∀ (i : Nat) x y, xs[i]? = some x → ys[i]? = some y → f x = pure y
  | [], _ => ⟨[], rfl, rfl, fun i x y h => by simp at h⟩
  | x :: xs, h => by
    obtain ⟨y, e⟩ := h x (by simp)
    obtain ⟨ys, e2, l, g⟩ := mapO_ex xs fun z hz => h z (by simp [hz])
    refine ⟨y :: ys, ?_, by simp [l], fun i a b ha hb => ?_⟩
    · unfold mapO
      rw [e, e2]
      rfl
    · cases i with
      | zero =>
        simp at ha hb
        subst ha hb
        exact e
      | succ i => exact g i a b (by simpa using ha) (by simpa using hb)
theorem compO_ok {α β : Type} {c : α → Out Bool} {m : α → Out β} {p : α → Bool} {g : α → β} : ∀ xs : List α, (∀ x ∈ xs, c x = pure (p x)) → (∀ x ∈ xs, p x = true → m x = pure (g x)) → compO (fun x => ifO (c x) (m x)) xs = pure ((xs.filter p).map g)
  | [], _, _ => rfl
  | x :: xs, h1, h2 => by
    have ih := compO_ok xs (fun y hy => h1 y (by simp [hy])) (fun y hy => h2 y (by simp [hy]))
    cases e : p x with
    | false =>
      have e2 : ifO (c x) (m x) = .ok none := by unfold ifO; rw [h1 x (by simp), e]; rfl
      rw [List.filter_cons_of_neg (by simp [e])]
      unfold compO
      rw [e2]
      exact ih
    | true =>
      have e2 : ifO (c x) (m x) = .ok (some (g x)) := by
        unfold ifO
        rw [h1 x (by simp), e, pbind, if_pos rfl, h2 x (by simp) e]
        rfl
      rw [List.filter_cons_of_pos e, List.map_cons]
      unfold compO
      rw [e2]
      simp only [ih]
      rfl
/-- no test -/
theorem comp2_flat {α β γ : Type} {f : α → Out (List β)} {h : α → List β} {g : α → β → γ} : ∀ xs : List α, (∀ x ∈ xs, f x = pure (h x)) → comp2O f (fun a b => ifO (pure true) (pure (g a b))) xs = pure (xs.flatMap fun x => (h x).map (g x))
  | [], _ => rfl
  | x :: xs, hf => by
    unfold comp2O
    rw [hf x (by simp), comp2_flat xs fun y hy => hf y (by simp [hy])]
    have e : compO (fun b => ifO (pure true) (pure (g x b))) (h x) = pure ((h x).map (g x)) := by
      have := compO_ok (c := fun _ => pure true) (m := fun b => (pure (g x b) : Out γ)) (p := fun _ => true) (g := g x) (h x) (fun _ _ => rfl) (fun _ _ _ => rfl)
      rw [this, List.filter_eq_self.mpr (fun _ _ => rfl)]
    simp only [pure_ok] at e ⊢
    simp only [e]
    rfl
theorem limO_ok {α : Type} {xs : List α} (h : xs.length ≤ 16777216) : limO xs = pure xs := if_pos h

/-! ### sequences -/
theorem ixN_nat {n k : Nat} (h : k < n) : ixN n (k : Int) = some k := by
  unfold ixN
  rw [if_pos (by omega), if_pos (by omega)]
  simp
theorem idx_nat {α : Type} {xs : List α} {k : Nat} {a : α} (h : xs[k]? = some a) : idx xs (k : Int) = pure a := by
  have hk := (List.getElem?_eq_some_iff.mp h).1
  unfold idx atI
  rw [ixN_nat hk]
  show (match xs[k]? with | some v => pure v | none => Out.stuck) = _
  rw [h]
theorem idx_int {α : Type} {xs : List α} {i : Int} {a : α} (h0 : 0 ≤ i) (h : xs[i.toNat]? = some a) : idx xs i = pure a := by
  have := idx_nat h
  rwa [Int.toNat_of_nonneg h0] at this
theorem idx_lt {α : Type} {xs : List α} {i : Int} (h0 : 0 ≤ i) (h : i < xs.length) : ∃ a, idx xs i = pure a ∧ xs[i.toNat]? = some a := by
  have hk : i.toNat < xs.length := by omega
  exact ⟨xs[i.toNat], idx_int h0 (List.getElem?_eq_getElem hk), List.getElem?_eq_getElem hk⟩
theorem appO_ok {α : Type} {xs : List α} {x : α} (h : xs.length < 16777216) : appO xs x = pure (xs ++ [x]) := if_pos h
theorem catO_ok {α : Type} {xs ys : List α} (h : xs.length + ys.length ≤ 16777216) : catO xs ys = pure (xs ++ ys) := if_pos h
theorem setO_nat {α : Type} {xs : List α} {k : Nat} {x : α} (h : k < xs.length) : setO xs (k : Int) x = pure (xs.set k x) := by
  unfold setO ixO
  rw [ixN_nat h]
  rfl
theorem rangeO_nat {n : Nat} (h : n ≤ 16777216) : rangeO (n : Int) = pure (upto n) := by
  unfold rangeO
  rw [if_pos (by omega)]
  simp
theorem upto_get {n i : Nat} (h : i < n) : (upto n)[i]? = some (i : Int) := by simp [upto, h]
theorem upto_at {n i : Nat} {x : Int} (h : (upto n)[i]? = some x) : x = (i : Int) ∧ i < n := by
  have hi := (List.getElem?_eq_some_iff.mp h).1
  rw [upto_len] at hi
  rw [upto_get hi] at h
  exact ⟨(Option.some.inj h).symm, hi⟩
theorem upto_mem {n : Nat} {x : Int} : x ∈ upto n ↔ 0 ≤ x ∧ x < n := by
  unfold upto
  rw [List.mem_map]
  constructor
  · rintro ⟨i, hi, rfl⟩
    rw [List.mem_range] at hi
    omega
  · intro h
    exact ⟨x.toNat, List.mem_range.mpr (by omega), by omega⟩
theorem upto_succ (n : Nat) : upto (n + 1) = upto n ++ [(n : Int)] := by simp [upto, List.range_succ]
theorem rep_len {α : Type} (a : α) : ∀ n : Nat, (List.replicate n [a]).flatten = List.replicate n a
  | 0 => rfl
  | n + 1 => by rw [List.replicate_succ, List.flatten_cons, rep_len a n]; rfl
theorem repO_nat {α : Type} {a : α} {n : Nat} (h : n ≤ 16777216) : repO [a] (n : Int) = pure (List.replicate n a) := by
  unfold repO
  rw [if_pos ⟨by omega, by simp; omega, by omega⟩]
  simp [rep_len]
theorem cut_take {α : Type} (xs : List α) (n : Nat) : cut xs none (some (n : Int)) = xs.take n := by
  unfold cut
  show (xs.drop 0).take (HT.sIx xs.length xs.length (some (n : Int)) - 0) = _
  rw [HT.sIx_nat, List.drop_zero, Nat.sub_zero]
  by_cases h : n ≤ xs.length
  · rw [Nat.min_eq_left h]
  · rw [Nat.min_eq_right (by omega), List.take_of_length_le (Nat.le_refl _), List.take_of_length_le (by omega)]
theorem cut_mid {α : Type} (xs : List α) (a b : Nat) : cut xs (some (a : Int)) (some (b : Int)) = (xs.drop (min a xs.length)).take (min b xs.length - min a xs.length) := by
  unfold cut
  rw [HT.sIx_nat, HT.sIx_nat]
theorem mulO_r {i j : Int} (h1 : -(2 ^ 64) < j) (h2 : j < 2 ^ 64) : mulO i j = pure (i * j) := if_pos (.inr ⟨h1, h2⟩)
theorem modO_ok {i j : Int} (h : 0 < j) : modO i j = pure (i % j) := if_pos h
theorem divO_ok {i j : Int} (h : 0 < j) (h2 : j < 1073741824) : divO i j = pure (i / j) := if_pos ⟨h, h2⟩
end SM

set_option Elab.async false
set_option linter.all false
set_option maxRecDepth 100000
set_option maxHeartbeats 4000000
namespace My
open PySem PySem.Spec PyProof.Rows L2 SL
def top (i : Nat) : Stmt := PySem.Challenge.pw_sloweralone_k20_hue_rows_whole.main.body.getD i (.Pass ⟨0, 0, 0, 0⟩)
abbrev s_frozen : Stmt := top 1
abbrev s_meeting_edges : Stmt := top 3
abbrev s_other_edge : Stmt := top 4
abbrev s_row_from : Stmt := top 5
abbrev s_open_rows : Stmt := top 6
abbrev s_closed_rows : Stmt := top 7
abbrev s_hue_rows : Stmt := top 8
abbrev s_law_whole : Stmt := top 10
abbrev s_law_cell : Stmt := top 11
abbrev s_law_digits : Stmt := top 12
abbrev s_law_number : Stmt := top 13
abbrev s_law_end : Stmt := top 14
abbrev s_law_row_edges : Stmt := top 15
abbrev s_law_built : Stmt := top 16
abbrev s_law_mixed : Stmt := top 17
abbrev s_law_due : Stmt := top 18
abbrev s_law_same : Stmt := top 19
abbrev s_law_asked : Stmt := top 20
abbrev s_law : Stmt := top 21
abbrev FUEL : Nat := 1000000000
noncomputable section
variable {Pr : Program} {w : World} {K : PySem.W.Frag} {mg : Str → Option Value} {base : Heap}
def b_law_cell (script : List Int) (k : Int) : Out Int :=
(pure (decide (k < (script.length : Int)))) >>= fun c1 => if c1 = true then (
idx script k)
else (
(pure 17) >>= fun seed =>
((pure script) >>= fun xs4 => forO (fun (s2 : Int) (x3 : Int) =>
(pure (((s2 * 31) + (x3 % 1000003)) % 1000003)) >>= fun seed =>
pure seed) xs4 seed) >>= fun s5 =>
(((mulO (s5 + 7) (k + 3)) >>= fun t6 => pure (t6 * 69621)) >>= fun t7 => pure t7) >>= fun t8 => pure (t8 % 2147483647))
theorem x_law_cell : ∃ g : (List Int) → Int → Out Int, g = b_law_cell := ⟨_, rfl⟩
def m_law_cell : (List Int) → Int → Out Int := Classical.choose x_law_cell
theorem m_law_cell_eq : m_law_cell = b_law_cell := Classical.choose_spec x_law_cell
abbrev P_law_cell : Par ((List Int) × Int × Unit) := (pC (tLstQ tInt) (pC tInt pN))
abbrev u_law_cell (i : (List Int) × Int × Unit) : Out Int := m_law_cell i.1 i.2.1
theorem sc_law_cell : FnScope ["script", "k", "seed", "cell"] ["script", "k"] (defScope s_law_cell) := ⟨rfl, rfl, rfl, by decide +kernel, rfl, by decide +kernel, by decide +kernel⟩
abbrev sp_law_cell (K : PySem.W.Frag) : Sp := Sps P_law_cell u_law_cell tInt K
theorem ok_law_cell {fd : FuncData} (Z : Fre mg) (F : FunD K "_law_cell" "_law_cell" (defArgs s_law_cell) (defBody s_law_cell) (defScope s_law_cell) [] [] (He.fAd K ("_law_cell", none)) fd) (g : mg "_law_cell" = some (.ref (He.fAd K ("_law_cell", none))))   : Def Pr w K mg base 1 "_law_cell" ["script", "k"] [] (sp_law_cell K) := by
  refine ⟨_, fd, [], fn_body F sc_law_cell rfl (by decide) (fun X E B i e1 e2 e3 e4 e5 hW C => ?_), g, F.kp, F.bindsN (fun _ _ _ _ _ _ us hl => match us, hl with | [_, _], _ => rfl), .nil⟩
  subst e1 e2 e3 e4 e5
  obtain ⟨script, k, _⟩ := i
  show WS X E B [iS (tLstQ tInt) script, iS tInt k, .any, .any] [_] (m_law_cell script k) _
  rw [m_law_cell_eq]
  unfold b_law_cell
  exact ws_if (WT.cast (m' := pure (decide (k < (script.length : Int)))) (wt_lt (we_var C 1) (we_lenL C Z (WE.rq (we_var C 0)))) (by first | rfl | simp only [bind_as, pure_b])) (
ws_ret0 (WE.cast (m' := idx script k) (we_ixL (WE.rq (we_var C 0)) (we_var C 1)) (by first | rfl | simp only [bind_as, pure_b])) (fun _ => rfl)) (
ws_pop (ws_set C 2 (WE.cast (m' := pure 17) we_int (by first | rfl | simp only [bind_as, pure_b])) (fun seed =>
ws_seq (Δ := (fun (s2 : Int) => [iS (tLstQ tInt) script, iS tInt k, iS tInt s2, .any])) (w1_for C (WI.cast (m' := pure script) (wi_lstQ (we_var C 0)) (by first | rfl | simp only [bind_as, pure_b])) (wg_name C 3) (Δ := (fun (s2 : Int) => [iS (tLstQ tInt) script, iS tInt k, iS tInt s2, .any])) (s0 := seed) (Weak.same (Weak.same (Weak.same (Weak.same Weak.nil)))) (fun s2 x3 =>
ws_set C 2 (WE.cast (m' := pure (((s2 * 31) + (x3 % 1000003)) % 1000003)) (we_modR (we_intI C Z (we_add (we_mulR (we_var C 2) we_int) (we_modR (we_intI C Z (we_var C 3)) we_int))) we_int) (by first | rfl | simp only [bind_as, pure_b])) (fun seed =>
ws_fin rfl (Weak.same (Weak.same (Weak.same (Weak.any Weak.nil))))))) (fun s5 =>
ws_ret0 (WE.cast (m' := (((mulO (s5 + 7) (k + 3)) >>= fun t6 => pure (t6 * 69621)) >>= fun t7 => pure t7) >>= fun t8 => pure (t8 % 2147483647)) (we_modR (we_intI C Z (we_mulR (we_mul (we_add (we_var C 2) we_int) (we_add (we_var C 1) we_int)) we_int)) we_int) (by first | rfl | simp only [bind_as, pure_b])) (fun _ => rfl)))))
def b_law_digits (cell : Int) (sizes : List Int) : Out (List Int) :=
(pure ([] : List Int)) >>= fun row =>
(pure 0) >>= fun rest =>
((pure (decide (1000000000000000000 ≤ cell))) >>= fun c1 => if c1 = true then (
(pure ((cell - 1000000000000000000) % 10000000000000000000000000000000000000000000000000000000000000000000000000000000000000000000000000000000000000000000000000000000000000000000000000000000000000000000000000000000000000000000000000000000000000000000000000000000000000000000000000000000000000000)) >>= fun rest =>
pure rest)
else (
pure rest)) >>= fun s2 =>
(pure (cell % 2147483629)) >>= fun seed =>
((pure (upto sizes.length)) >>= fun xs13 => forO (fun (s3 : Int × Int × (List Int)) (x4 : Int) =>
(pure ((((s3.1 * 48271) + (974711 * x4)) + 12345) % 2147483647)) >>= fun seed =>
(((mulO seed ((seed / 65537) + 3)) >>= fun t5 => pure t5) >>= fun t6 => pure (t6 % 2147483629)) >>= fun twice =>
(pure (decide (0 < s3.2.1))) >>= fun c7 => if c7 = true then (
((idx sizes x4) >>= fun t8 => modO s3.2.1 t8) >>= fun a9 => appO s3.2.2 a9 >>= fun row =>
((idx sizes x4) >>= fun t10 => divO s3.2.1 t10) >>= fun rest =>
pure (seed, rest, row))
else (
((idx sizes x4) >>= fun t11 => modO (twice / 19) t11) >>= fun a12 => appO s3.2.2 a12 >>= fun row =>
pure (seed, s3.2.1, row))) xs13 (seed, s2, row)) >>= fun s14 =>
pure s14.2.2
theorem x_law_digits : ∃ g : Int → (List Int) → Out (List Int), g = b_law_digits := ⟨_, rfl⟩
def m_law_digits : Int → (List Int) → Out (List Int) := Classical.choose x_law_digits
theorem m_law_digits_eq : m_law_digits = b_law_digits := Classical.choose_spec x_law_digits
abbrev P_law_digits : Par (Int × (List Int) × Unit) := (pC tInt (pC (tLst tInt) pN))
abbrev u_law_digits (i : Int × (List Int) × Unit) : Out (List Int) := m_law_digits i.1 i.2.1
theorem sc_law_digits : FnScope ["cell", "sizes", "row", "rest", "seed", "k", "twice"] ["cell", "sizes"] (defScope s_law_digits) := ⟨rfl, rfl, rfl, by decide +kernel, rfl, by decide +kernel, by decide +kernel⟩
abbrev sp_law_digits (K : PySem.W.Frag) : Sp := SpsO P_law_digits u_law_digits (oLst tInt) K
theorem ok_law_digits {fd : FuncData} (Z : Fre mg) (F : FunD K "_law_digits" "_law_digits" (defArgs s_law_digits) (defBody s_law_digits) (defScope s_law_digits) [] [] (He.fAd K ("_law_digits", none)) fd) (g : mg "_law_digits" = some (.ref (He.fAd K ("_law_digits", none))))   : Def Pr w K mg base 1 "_law_digits" ["cell", "sizes"] [] (sp_law_digits K) := by
  refine ⟨_, fd, [], fn_bodyO F sc_law_digits rfl (by decide) (fun X E B i e1 e2 e3 e4 e5 hW C => ?_), g, F.kp, F.bindsN (fun _ _ _ _ _ _ us hl => match us, hl with | [_, _], _ => rfl), .nil⟩
  subst e1 e2 e3 e4 e5
  obtain ⟨cell, sizes, _⟩ := i
  show WS X E B [iS tInt cell, iS (tLst tInt) sizes, .any, .any, .any, .any, .any] [_] (m_law_digits cell sizes) _
  rw [m_law_digits_eq]
  unfold b_law_digits
  exact ws_setO C 2 (WO.cast (m' := pure ([] : List Int)) (wo_lst (wal_nil (T := tInt))) (by first | rfl | simp only [bind_as, pure_b])) (fun row =>
ws_set C 3 (WE.cast (m' := pure 0) we_int (by first | rfl | simp only [bind_as, pure_b])) (fun rest =>
ws_seq (Δ := (fun (s2 : Int) => [iS tInt cell, iS (tLst tInt) sizes, .on _ (oLst tInt) row, iS tInt s2, .any, .any, .any])) (w1_if (WT.cast (m' := pure (decide (1000000000000000000 ≤ cell))) (wt_ge (we_var C 0) (we_powL 1000000000000000000 we_int we_int)) (by first | rfl | simp only [bind_as, pure_b])) (
ws_set C 3 (WE.cast (m' := pure ((cell - 1000000000000000000) % 10000000000000000000000000000000000000000000000000000000000000000000000000000000000000000000000000000000000000000000000000000000000000000000000000000000000000000000000000000000000000000000000000000000000000000000000000000000000000000000000000000000000000000)) (we_modR (we_intI C Z (we_sub (we_var C 0) (we_powL 1000000000000000000 we_int we_int))) (we_mulW 10000000000000000000000000000000000000000000000000000000000000000000000000000000000000000000000000000000000000000000000000000000000000000000000000000000000000000000000000000000000000000000000000000000000000000000000000000000000000000000000000000000000000000 (we_mulW 1000000000000000000000000000000000000000000000000000000000000000000000000000000000000000000000000000000000000000000000000000000000000000000000000000000000000000000000000000000000000000000000000 (we_mulW 100000000000000000000000000000000000000000000000000000000000000000000000000000000000000000000000000000000000000000000000000000000 (we_powL 10000000000000000000000000000000000000000000000000000000000000000 we_int we_int) (we_powL 10000000000000000000000000000000000000000000000000000000000000000 we_int we_int)) (we_powL 10000000000000000000000000000000000000000000000000000000000000000 we_int we_int)) (we_powL 10000000000000000000000000000000000000000000000000000000000000000 we_int we_int)) (by decide +kernel)) (by first | rfl | simp only [bind_as, pure_b])) (fun rest =>
ws_fin rfl (Weak.same (Weak.same (Weak.same (Weak.same (Weak.same (Weak.same (Weak.same Weak.nil))))))))) (
ws_fin rfl (Weak.same (Weak.same (Weak.same (Weak.same (Weak.same (Weak.same (Weak.same Weak.nil))))))))) (fun s2 =>
ws_set C 4 (WE.cast (m' := pure (cell % 2147483629)) (we_modR (we_intI C Z (we_var C 0)) we_int) (by first | rfl | simp only [bind_as, pure_b])) (fun seed =>
ws_seq (Δ := (fun (s3 : Int × Int × (List Int)) => [iS tInt cell, iS (tLst tInt) sizes, .on _ (oLst tInt) s3.2.2, iS tInt s3.2.1, iS tInt s3.1, .any, .any])) (w1_for C (WI.cast (m' := pure (upto sizes.length)) (wi_rlen C Z rl_len (WE.rd (we_var C 1))) (by first | rfl | simp only [bind_as, pure_b])) (wg_name C 5) (Δ := (fun (s3 : Int × Int × (List Int)) => [iS tInt cell, iS (tLst tInt) sizes, .on _ (oLst tInt) s3.2.2, iS tInt s3.2.1, iS tInt s3.1, .any, .any])) (s0 := (seed, s2, row)) (Weak.same (Weak.same (Weak.same (Weak.same (Weak.same (Weak.same (Weak.same Weak.nil))))))) (fun s3 x4 =>
ws_set C 4 (WE.cast (m' := pure ((((s3.1 * 48271) + (974711 * x4)) + 12345) % 2147483647)) (we_modR (we_intI C Z (we_add (we_add (we_mulR (we_var C 4) we_int) (we_mulL we_int (we_var C 5))) we_int)) we_int) (by first | rfl | simp only [bind_as, pure_b])) (fun seed =>
ws_set C 6 (WE.cast (m' := ((mulO seed ((seed / 65537) + 3)) >>= fun t5 => pure t5) >>= fun t6 => pure (t6 % 2147483629)) (we_modR (we_intI C Z (we_mul (we_var C 4) (we_add (we_divR (we_var C 4) we_int) we_int))) we_int) (by first | rfl | simp only [bind_as, pure_b])) (fun twice =>
ws_if (WT.cast (m' := pure (decide (0 < s3.2.1))) (wt_gt (we_var C 3) we_int) (by first | rfl | simp only [bind_as, pure_b])) (
ws_app C 2 (WE.cast (m' := (idx sizes x4) >>= fun t8 => modO s3.2.1 t8) (we_mod (we_intI C Z (we_var C 3)) (we_ixL (WE.rd (we_var C 1)) (we_var C 5))) (by first | rfl | simp only [bind_as, pure_b])) (fun row =>
ws_set C 3 (WE.cast (m' := (idx sizes x4) >>= fun t10 => divO s3.2.1 t10) (we_div (we_var C 3) (we_ixL (WE.rd (we_var C 1)) (we_var C 5))) (by first | rfl | simp only [bind_as, pure_b])) (fun rest =>
ws_pop (ws_fin rfl (Weak.same (Weak.same (Weak.same (Weak.same (Weak.same (Weak.any (Weak.any Weak.nil))))))))))) (
ws_app C 2 (WE.cast (m' := (idx sizes x4) >>= fun t11 => modO (twice / 19) t11) (we_mod (we_intI C Z (we_divR (we_var C 6) we_int)) (we_ixL (WE.rd (we_var C 1)) (we_var C 5))) (by first | rfl | simp only [bind_as, pure_b])) (fun row =>
ws_pop (ws_fin rfl (Weak.same (Weak.same (Weak.same (Weak.same (Weak.same (Weak.any (Weak.any Weak.nil)))))))))))))) (fun s14 =>
ws_retV C 2 hW rfl)))))
def b_law_number (base : Int) (step : Int) (index : Int) : Out Int :=
((((idx [1, 7, 999, 333, 77, 501] step) >>= fun t1 => mulO index t1) >>= fun t2 => pure (base + t2)) >>= fun t3 => pure t3) >>= fun t4 => pure (t4 % 1000)
theorem x_law_number : ∃ g : Int → Int → Int → Out Int, g = b_law_number := ⟨_, rfl⟩
def m_law_number : Int → Int → Int → Out Int := Classical.choose x_law_number
theorem m_law_number_eq : m_law_number = b_law_number := Classical.choose_spec x_law_number
abbrev P_law_number : Par (Int × Int × Int × Unit) := (pC tInt (pC tInt (pC tInt pN)))
abbrev u_law_number (i : Int × Int × Int × Unit) : Out Int := m_law_number i.1 i.2.1 i.2.2.1
theorem sc_law_number : FnScope ["base", "step", "index"] ["base", "step", "index"] (defScope s_law_number) := ⟨rfl, rfl, rfl, by decide +kernel, rfl, by decide +kernel, by decide +kernel⟩
abbrev sp_law_number (K : PySem.W.Frag) : Sp := Sps P_law_number u_law_number tInt K
theorem ok_law_number {fd : FuncData} (Z : Fre mg) (F : FunD K "_law_number" "_law_number" (defArgs s_law_number) (defBody s_law_number) (defScope s_law_number) [] [] (He.fAd K ("_law_number", none)) fd) (g : mg "_law_number" = some (.ref (He.fAd K ("_law_number", none))))   : Def Pr w K mg base 1 "_law_number" ["base", "step", "index"] [] (sp_law_number K) := by
  refine ⟨_, fd, [], fn_body F sc_law_number rfl (by decide) (fun X E B i e1 e2 e3 e4 e5 hW C => ?_), g, F.kp, F.bindsN (fun _ _ _ _ _ _ us hl => match us, hl with | [_, _, _], _ => rfl), .nil⟩
  subst e1 e2 e3 e4 e5
  obtain ⟨base, step, index, _⟩ := i
  show WS X E B [iS tInt base, iS tInt step, iS tInt index] [_] (m_law_number base step index) _
  rw [m_law_number_eq]
  unfold b_law_number
  exact ws_ret0 (WE.cast (m' := ((((idx [1, 7, 999, 333, 77, 501] step) >>= fun t1 => mulO index t1) >>= fun t2 => pure (base + t2)) >>= fun t3 => pure t3) >>= fun t4 => pure (t4 % 1000)) (we_modR (we_intI C Z (we_add (we_var C 0) (we_mul (we_var C 2) (we_ixL (WO.rd (wo_lst (wal_cons we_int (wal_cons we_int (wal_cons we_int (wal_cons we_int (wal_cons we_int (wal_cons we_int wal_nil)))))))) (we_var C 1))))) we_int) (by first | rfl | simp only [bind_as, pure_b])) (fun _ => rfl)
def b_law_end (side : Int) (k : Int) (bases : List Int) : Out (Int × Int) :=
(pure ((side + k) % 2)) >>= fun other =>
((idx bases other) >>= fun t1 => pure (t1 + (k / 2))) >>= fun t2 => pure (other, t2)
theorem x_law_end : ∃ g : Int → Int → (List Int) → Out (Int × Int), g = b_law_end := ⟨_, rfl⟩
def m_law_end : Int → Int → (List Int) → Out (Int × Int) := Classical.choose x_law_end
theorem m_law_end_eq : m_law_end = b_law_end := Classical.choose_spec x_law_end
abbrev P_law_end : Par (Int × Int × (List Int) × Unit) := (pC tInt (pC tInt (pC (tLst tInt) pN)))
abbrev u_law_end (i : Int × Int × (List Int) × Unit) : Out (Int × Int) := m_law_end i.1 i.2.1 i.2.2.1
theorem sc_law_end : FnScope ["side", "k", "bases", "other"] ["side", "k", "bases"] (defScope s_law_end) := ⟨rfl, rfl, rfl, by decide +kernel, rfl, by decide +kernel, by decide +kernel⟩
abbrev sp_law_end (K : PySem.W.Frag) : Sp := Sps P_law_end u_law_end (tL2 tInt tInt) K
theorem ok_law_end {fd : FuncData} (Z : Fre mg) (F : FunD K "_law_end" "_law_end" (defArgs s_law_end) (defBody s_law_end) (defScope s_law_end) [] [] (He.fAd K ("_law_end", none)) fd) (g : mg "_law_end" = some (.ref (He.fAd K ("_law_end", none))))   : Def Pr w K mg base 1 "_law_end" ["side", "k", "bases"] [] (sp_law_end K) := by
  refine ⟨_, fd, [], fn_body F sc_law_end rfl (by decide) (fun X E B i e1 e2 e3 e4 e5 hW C => ?_), g, F.kp, F.bindsN (fun _ _ _ _ _ _ us hl => match us, hl with | [_, _, _], _ => rfl), .nil⟩
  subst e1 e2 e3 e4 e5
  obtain ⟨side, k, bases, _⟩ := i
  show WS X E B [iS tInt side, iS tInt k, iS (tLst tInt) bases, .any] [_] (m_law_end side k bases) _
  rw [m_law_end_eq]
  unfold b_law_end
  exact ws_set C 3 (WE.cast (m' := pure ((side + k) % 2)) (we_modR (we_intI C Z (we_add (we_var C 0) (we_var C 1))) we_int) (by first | rfl | simp only [bind_as, pure_b])) (fun other =>
ws_ret0 (WE.cast (m' := ((idx bases other) >>= fun t1 => pure (t1 + (k / 2))) >>= fun t2 => pure (other, t2)) (we_l2 (we_var C 3) (we_add (we_ixL (WE.rd (we_var C 2)) (we_var C 3)) (we_divR (we_var C 1) we_int))) (by first | rfl | simp only [bind_as, pure_b])) (fun _ => rfl))
def b_law_row_edges (closed : Bool) (size : Int) (side : Int) (bases : List Int) : Out (List (Int × Int)) :=
(pure ([] : List (Int × Int))) >>= fun edges =>
((rangeO size) >>= fun xs8 => forO (fun (s1 : (List (Int × Int))) (x2 : Int) =>
(m_law_end side x2 bases) >>= fun one =>
(m_law_end side (x2 + 1) bases) >>= fun other =>
((if closed = true then pure (decide (x2 = size - 1)) else pure false) >>= fun c3 => if c3 = true then (
(m_law_end side 0 bases) >>= fun other =>
pure other)
else (
pure other)) >>= fun s4 =>
(pure (decide (one.1 = 0))) >>= fun c5 => if c5 = true then (
(pure (one.2, s4.2)) >>= fun a6 => appO s1 a6 >>= fun edges =>
pure edges)
else (
(pure (s4.2, one.2)) >>= fun a7 => appO s1 a7 >>= fun edges =>
pure edges)) xs8 edges) >>= fun s9 =>
pure s9
theorem x_law_row_edges : ∃ g : Bool → Int → Int → (List Int) → Out (List (Int × Int)), g = b_law_row_edges := ⟨_, rfl⟩
def m_law_row_edges : Bool → Int → Int → (List Int) → Out (List (Int × Int)) := Classical.choose x_law_row_edges
theorem m_law_row_edges_eq : m_law_row_edges = b_law_row_edges := Classical.choose_spec x_law_row_edges
abbrev P_law_row_edges : Par (Bool × Int × Int × (List Int) × Unit) := (pC tBool (pC tInt (pC tInt (pC (tLst tInt) pN))))
abbrev u_law_row_edges (i : Bool × Int × Int × (List Int) × Unit) : Out (List (Int × Int)) := m_law_row_edges i.1 i.2.1 i.2.2.1 i.2.2.2.1
theorem sc_law_row_edges : FnScope ["closed", "size", "side", "bases", "edges", "k", "one", "other"] ["closed", "size", "side", "bases"] (defScope s_law_row_edges) := ⟨rfl, rfl, rfl, by decide +kernel, rfl, by decide +kernel, by decide +kernel⟩
abbrev sp_law_row_edges (K : PySem.W.Frag) : Sp := SpsO P_law_row_edges u_law_row_edges (oLst (tT2 tInt tInt)) K
theorem ok_law_row_edges {fd : FuncData} (Z : Fre mg) (F : FunD K "_law_row_edges" "_law_row_edges" (defArgs s_law_row_edges) (defBody s_law_row_edges) (defScope s_law_row_edges) [] [] (He.fAd K ("_law_row_edges", none)) fd) (g : mg "_law_row_edges" = some (.ref (He.fAd K ("_law_row_edges", none)))) (G_law_end : Def Pr w K mg base 1 "_law_end" ["side", "k", "bases"] [] (sp_law_end K))  : Def Pr w K mg base 2 "_law_row_edges" ["closed", "size", "side", "bases"] [] (sp_law_row_edges K) := by
  refine ⟨_, fd, [], fn_bodyO F sc_law_row_edges rfl (by decide) (fun X E B i e1 e2 e3 e4 e5 hW C => ?_), g, F.kp, F.bindsN (fun _ _ _ _ _ _ us hl => match us, hl with | [_, _, _, _], _ => rfl), .nil⟩
  subst e1 e2 e3 e4 e5
  obtain ⟨closed, size, side, bases, _⟩ := i
  show WS X E B [iS tBool closed, iS tInt size, iS tInt side, iS (tLst tInt) bases, .any, .any, .any, .any] [_] (m_law_row_edges closed size side bases) _
  rw [m_law_row_edges_eq]
  unfold b_law_row_edges
  exact ws_setO C 4 (WO.cast (m' := pure ([] : List (Int × Int))) (wo_lst (wal_nil (T := (tT2 tInt tInt)))) (by first | rfl | simp only [bind_as, pure_b])) (fun edges =>
ws_seq (Δ := (fun (s1 : (List (Int × Int))) => [iS tBool closed, iS tInt size, iS tInt side, iS (tLst tInt) bases, .on _ (oLst (tT2 tInt tInt)) s1, .any, .any, .any])) (w1_for C (WI.cast (m' := rangeO size) (wi_range C Z (we_var C 1)) (by first | rfl | simp only [bind_as, pure_b])) (wg_name C 5) (Δ := (fun (s1 : (List (Int × Int))) => [iS tBool closed, iS tInt size, iS tInt side, iS (tLst tInt) bases, .on _ (oLst (tT2 tInt tInt)) s1, .any, .any, .any])) (s0 := edges) (Weak.same (Weak.same (Weak.same (Weak.same (Weak.same (Weak.same (Weak.same (Weak.same Weak.nil)))))))) (fun s1 x2 =>
ws_set C 6 (WE.cast (m' := m_law_end side x2 bases) (we_call C G_law_end (by decide) (wa_cons (R := tInt.rl) (we_var C 2) fun a0 => wa_cons (R := tInt.rl) (we_var C 5) fun a1 => wa_cons (R := (tLst tInt).rl) (we_var C 3) fun a2 => wa_nil fun K F H s v2 r2 v1 r1 v0 r0 => ⟨(a0, a1, a2, ()), rfl, v0, _, rfl, r0, v1, _, rfl, r1, v2, _, rfl, r2, rfl⟩)) (by first | (simp only [pure_b, bind_as]; done) | rfl)) (fun one =>
ws_set C 7 (WE.cast (m' := m_law_end side (x2 + 1) bases) (we_call C G_law_end (by decide) (wa_cons (R := tInt.rl) (we_var C 2) fun a0 => wa_cons (R := tInt.rl) (we_add (we_var C 5) we_int) fun a1 => wa_cons (R := (tLst tInt).rl) (we_var C 3) fun a2 => wa_nil fun K F H s v2 r2 v1 r1 v0 r0 => ⟨(a0, a1, a2, ()), rfl, v0, _, rfl, r0, v1, _, rfl, r1, v2, _, rfl, r2, rfl⟩)) (by first | (simp only [pure_b, bind_as]; done) | rfl)) (fun other =>
ws_seq (Δ := (fun (s4 : (Int × Int)) => [iS tBool closed, iS tInt size, iS tInt side, iS (tLst tInt) bases, .on _ (oLst (tT2 tInt tInt)) s1, iS tInt x2, iS (tL2 tInt tInt) one, iS (tL2 tInt tInt) s4])) (w1_if (WT.cast (m' := if closed = true then pure (decide (x2 = size - 1)) else pure false) (wt_b (wb_and (wt_val (we_var C 0)) (wb_and1 (wt_eq eqs_int (we_var C 5) (we_sub (we_var C 1) we_int))))) (by first | rfl | simp only [bind_as, pure_b])) (
ws_set C 7 (WE.cast (m' := m_law_end side 0 bases) (we_call C G_law_end (by decide) (wa_cons (R := tInt.rl) (we_var C 2) fun a0 => wa_cons (R := tInt.rl) we_int fun a1 => wa_cons (R := (tLst tInt).rl) (we_var C 3) fun a2 => wa_nil fun K F H s v2 r2 v1 r1 v0 r0 => ⟨(a0, a1, a2, ()), rfl, v0, _, rfl, r0, v1, _, rfl, r1, v2, _, rfl, r2, rfl⟩)) (by first | (simp only [pure_b, bind_as]; done) | rfl)) (fun other =>
ws_fin rfl (Weak.same (Weak.same (Weak.same (Weak.same (Weak.same (Weak.same (Weak.same (Weak.same Weak.nil)))))))))) (
ws_fin rfl (Weak.same (Weak.same (Weak.same (Weak.same (Weak.same (Weak.same (Weak.same (Weak.same Weak.nil)))))))))) (fun s4 =>
ws_if (WT.cast (m' := pure (decide (one.1 = 0))) (wt_eq eqs_int (we_prj pl20 (we_var C 6)) we_int) (by first | rfl | simp only [bind_as, pure_b])) (
ws_app C 4 (WE.cast (m' := pure (one.2, s4.2)) (we_t2 (we_prj pl21 (we_var C 6)) (we_prj pl21 (we_var C 7))) (by first | rfl | simp only [bind_as, pure_b])) (fun edges =>
ws_pop (ws_fin rfl (Weak.same (Weak.same (Weak.same (Weak.same (Weak.same (Weak.any (Weak.any (Weak.any Weak.nil))))))))))) (
ws_app C 4 (WE.cast (m' := pure (s4.2, one.2)) (we_t2 (we_prj pl21 (we_var C 7)) (we_prj pl21 (we_var C 6))) (by first | rfl | simp only [bind_as, pure_b])) (fun edges =>
ws_pop (ws_fin rfl (Weak.same (Weak.same (Weak.same (Weak.same (Weak.same (Weak.any (Weak.any (Weak.any Weak.nil)))))))))))))))) (fun s9 =>
ws_retV C 4 hW rfl))
def b_law_built (script : List Int) (row : List Int) : Out (List (Bool × (List (Int × Int)) × Int)) :=
(pure ([] : List (Bool × (List (Int × Int)) × Int))) >>= fun rows =>
(pure [0, 0]) >>= fun bases =>
((((idx row 0) >>= fun t1 => idx [6, 4, 7, 5, 8, 3, 9, 2, 1, 5] t1) >>= fun t2 => rangeO t2) >>= fun xs32 => forO (fun (s3 : (List Int) × (List (Bool × (List (Int × Int)) × Int))) (x4 : Int) =>
((m_law_cell script (1 + x4)) >>= fun t5 => m_law_digits t5 [2, 12, 2, 2]) >>= fun part =>
(((idx part 1) >>= fun t6 => pure (1 + t6)) >>= fun t8 => ((idx part 0) >>= fun t7 => pure (1 + t7)) >>= fun t9 => mulO t8 t9) >>= fun size =>
((if (decide (x4 = 0)) = true then (idx row 1) >>= fun t10 => pure (decide (t10 = 1)) else pure false) >>= fun c11 => if c11 = true then (
(((idx row 2) >>= fun t13 => pure (100 * t13)) >>= fun t14 => pure (300 + t14)) >>= fun size =>
pure size)
else (
pure size)) >>= fun s12 =>
(((idx part 0) >>= fun t15 => pure (decide (t15 = 1))) >>= fun t20 => ((idx part 2) >>= fun t18 => (((idx part 0) >>= fun t16 => pure (decide (t16 = 0))) >>= fun t17 => pure (if t17 = true then 1 else 0)) >>= fun t19 => mulO t18 t19) >>= fun t21 => m_law_row_edges t20 s12 t21 s3.1) >>= fun edges =>
((pure (upto 2)) >>= fun xs27 => mapO (fun side22 => ((mapO (fun edge23 => idx [edge23.1, edge23.2] side22) edges) >>= fun t25 => maxL t25) >>= fun t26 => pure (1 + t26)) xs27) >>= fun bases =>
(((idx part 0) >>= fun t28 => pure (decide (t28 = 1))) >>= fun t29 => (idx part 3) >>= fun t30 => pure (t29, edges, t30)) >>= fun a31 => appO s3.2 a31 >>= fun rows =>
pure (bases, rows)) xs32 (bases, rows)) >>= fun s33 =>
pure s33.2
theorem x_law_built : ∃ g : (List Int) → (List Int) → Out (List (Bool × (List (Int × Int)) × Int)), g = b_law_built := ⟨_, rfl⟩
def m_law_built : (List Int) → (List Int) → Out (List (Bool × (List (Int × Int)) × Int)) := Classical.choose x_law_built
theorem m_law_built_eq : m_law_built = b_law_built := Classical.choose_spec x_law_built
abbrev P_law_built : Par ((List Int) × (List Int) × Unit) := (pC (tLstQ tInt) (pC (tLst tInt) pN))
abbrev u_law_built (i : (List Int) × (List Int) × Unit) : Out (List (Bool × (List (Int × Int)) × Int)) := m_law_built i.1 i.2.1
theorem sc_law_built : FnScope ["script", "row", "rows", "bases", "k", "part", "size", "edges", "side", "edge"] ["script", "row"] (defScope s_law_built) := ⟨rfl, rfl, rfl, by decide +kernel, rfl, by decide +kernel, by decide +kernel⟩
abbrev sp_law_built (K : PySem.W.Frag) : Sp := SpsO P_law_built u_law_built (oLst (tL3 tBool (tLst (tT2 tInt tInt)) tInt)) K
theorem ok_law_built {fd : FuncData} (Z : Fre mg) (F : FunD K "_law_built" "_law_built" (defArgs s_law_built) (defBody s_law_built) (defScope s_law_built) [] [] (He.fAd K ("_law_built", none)) fd) (g : mg "_law_built" = some (.ref (He.fAd K ("_law_built", none)))) (G_law_cell : Def Pr w K mg base 1 "_law_cell" ["script", "k"] [] (sp_law_cell K)) (G_law_digits : Def Pr w K mg base 1 "_law_digits" ["cell", "sizes"] [] (sp_law_digits K)) (G_law_row_edges : Def Pr w K mg base 2 "_law_row_edges" ["closed", "size", "side", "bases"] [] (sp_law_row_edges K))  : Def Pr w K mg base 3 "_law_built" ["script", "row"] [] (sp_law_built K) := by
  refine ⟨_, fd, [], fn_bodyO F sc_law_built rfl (by decide) (fun X E B i e1 e2 e3 e4 e5 hW C => ?_), g, F.kp, F.bindsN (fun _ _ _ _ _ _ us hl => match us, hl with | [_, _], _ => rfl), .nil⟩
  subst e1 e2 e3 e4 e5
  obtain ⟨script, row, _⟩ := i
  show WS X E B [iS (tLstQ tInt) script, iS (tLst tInt) row, .any, .any, .any, .any, .any, .any, .any, .any] [_] (m_law_built script row) _
  rw [m_law_built_eq]
  unfold b_law_built
  exact ws_setO C 2 (WO.cast (m' := pure ([] : List (Bool × (List (Int × Int)) × Int))) (wo_lst (wal_nil (T := (tL3 tBool (tLst (tT2 tInt tInt)) tInt)))) (by first | rfl | simp only [bind_as, pure_b])) (fun rows =>
ws_set C 3 (WE.cast (m' := pure [0, 0]) (WO.fz (wo_lst (wal_cons we_int (wal_cons we_int wal_nil))) (fz_lst _)) (by first | rfl | simp only [bind_as, pure_b])) (fun bases =>
ws_seq (Δ := (fun (s3 : (List Int) × (List (Bool × (List (Int × Int)) × Int))) => [iS (tLstQ tInt) script, iS (tLst tInt) row, .on _ (oLst (tL3 tBool (tLst (tT2 tInt tInt)) tInt)) s3.2, iS (tLst tInt) s3.1, .any, .any, .any, .any, .any, .any])) (w1_for C (WI.cast (m' := ((idx row 0) >>= fun t1 => idx [6, 4, 7, 5, 8, 3, 9, 2, 1, 5] t1) >>= fun t2 => rangeO t2) (wi_range C Z (we_ixL (WO.rd (wo_lst (wal_cons we_int (wal_cons we_int (wal_cons we_int (wal_cons we_int (wal_cons we_int (wal_cons we_int (wal_cons we_int (wal_cons we_int (wal_cons we_int (wal_cons we_int wal_nil)))))))))))) (we_ixL (WE.rd (we_var C 1)) we_int))) (by first | rfl | simp only [bind_as, pure_b])) (wg_name C 4) (Δ := (fun (s3 : (List Int) × (List (Bool × (List (Int × Int)) × Int))) => [iS (tLstQ tInt) script, iS (tLst tInt) row, .on _ (oLst (tL3 tBool (tLst (tT2 tInt tInt)) tInt)) s3.2, iS (tLst tInt) s3.1, .any, .any, .any, .any, .any, .any])) (s0 := (bases, rows)) (Weak.same (Weak.same (Weak.same (Weak.same (Weak.same (Weak.same (Weak.same (Weak.same (Weak.same (Weak.same Weak.nil)))))))))) (fun s3 x4 =>
ws_set C 5 (WE.cast (m' := (m_law_cell script (1 + x4)) >>= fun t5 => m_law_digits t5 [2, 12, 2, 2]) (WO.fz (wo_call C G_law_digits (by decide) (wa_cons (R := tInt.rl) (we_call C G_law_cell (by decide) (wa_cons (R := (tLstQ tInt).rl) (we_var C 0) fun a0 => wa_cons (R := tInt.rl) (we_add we_int (we_var C 4)) fun a1 => wa_nil fun K F H s v1 r1 v0 r0 => ⟨(a0, a1, ()), rfl, v0, _, rfl, r0, v1, _, rfl, r1, rfl⟩)) fun a0 => wa_cons (R := (tLst tInt).rl) (WO.fz (wo_lst (wal_cons we_int (wal_cons we_int (wal_cons we_int (wal_cons we_int wal_nil))))) (fz_lst _)) fun a1 => wa_nil fun K F H s v1 r1 v0 r0 => ⟨(a0, a1, ()), rfl, v0, _, rfl, r0, v1, _, rfl, r1, rfl⟩)) (fz_lst _)) (by first | (simp only [pure_b, bind_as]; done) | rfl)) (fun part =>
ws_set C 6 (WE.cast (m' := ((idx part 1) >>= fun t6 => pure (1 + t6)) >>= fun t8 => ((idx part 0) >>= fun t7 => pure (1 + t7)) >>= fun t9 => mulO t8 t9) (we_mul (we_add we_int (we_ixL (WE.rd (we_var C 5)) we_int)) (we_add we_int (we_ixL (WE.rd (we_var C 5)) we_int))) (by first | rfl | simp only [bind_as, pure_b])) (fun size =>
ws_seq (Δ := (fun (s12 : Int) => [iS (tLstQ tInt) script, iS (tLst tInt) row, .on _ (oLst (tL3 tBool (tLst (tT2 tInt tInt)) tInt)) s3.2, iS (tLst tInt) s3.1, iS tInt x4, iS (tLst tInt) part, iS tInt s12, .any, .any, .any])) (w1_if (WT.cast (m' := if (decide (x4 = 0)) = true then (idx row 1) >>= fun t10 => pure (decide (t10 = 1)) else pure false) (wt_b (wb_and (wt_eq eqs_int (we_var C 4) we_int) (wb_and1 (wt_eq eqs_int (we_ixL (WE.rd (we_var C 1)) we_int) we_int)))) (by first | rfl | simp only [bind_as, pure_b])) (
ws_set C 6 (WE.cast (m' := ((idx row 2) >>= fun t13 => pure (100 * t13)) >>= fun t14 => pure (300 + t14)) (we_add we_int (we_mulL we_int (we_ixL (WE.rd (we_var C 1)) we_int))) (by first | rfl | simp only [bind_as, pure_b])) (fun size =>
ws_fin rfl (Weak.same (Weak.same (Weak.same (Weak.same (Weak.same (Weak.same (Weak.same (Weak.same (Weak.same (Weak.same Weak.nil)))))))))))) (
ws_fin rfl (Weak.same (Weak.same (Weak.same (Weak.same (Weak.same (Weak.same (Weak.same (Weak.same (Weak.same (Weak.same Weak.nil)))))))))))) (fun s12 =>
ws_set C 7 (WE.cast (m' := ((idx part 0) >>= fun t15 => pure (decide (t15 = 1))) >>= fun t20 => ((idx part 2) >>= fun t18 => (((idx part 0) >>= fun t16 => pure (decide (t16 = 0))) >>= fun t17 => pure (if t17 = true then 1 else 0)) >>= fun t19 => mulO t18 t19) >>= fun t21 => m_law_row_edges t20 s12 t21 s3.1) (WO.fz (wo_call C G_law_row_edges (by decide) (wa_cons (R := tBool.rl) (we_eq eqs_int (we_ixL (WE.rd (we_var C 5)) we_int) we_int) fun a0 => wa_cons (R := tInt.rl) (we_var C 6) fun a1 => wa_cons (R := tInt.rl) (we_mul (we_ixL (WE.rd (we_var C 5)) we_int) (we_intB C Z (we_eq eqs_int (we_ixL (WE.rd (we_var C 5)) we_int) we_int))) fun a2 => wa_cons (R := (tLst tInt).rl) (we_var C 3) fun a3 => wa_nil fun K F H s v3 r3 v2 r2 v1 r1 v0 r0 => ⟨(a0, a1, a2, a3, ()), rfl, v0, _, rfl, r0, v1, _, rfl, r1, v2, _, rfl, r2, v3, _, rfl, r3, rfl⟩)) (fz_lst _)) (by first | (simp only [pure_b, bind_as]; done) | rfl)) (fun edges =>
ws_lc (f := _) C 3 [("side", 8)] (by decide +kernel) (WI.cast (m' := pure (upto 2)) (WI.cast (wi_range C Z we_int) rfl) (by first | rfl | simp only [bind_as, pure_b])) (ix := [8]) (by decide) (fun s_ H_ Cc_ cl_ fp_ C => (wg_name C 8)) (fun s_ H_ Cc_ cl_ fp_ side22 C => WE.cast (m' := ((mapO (fun edge23 => idx [edge23.1, edge23.2] side22) edges) >>= fun t25 => maxL t25) >>= fun t26 => pure (1 + t26)) (we_add we_int (we_maxL C Z (WO.rd (wo_lc C [("edge", 9)] (by decide +kernel) (WI.cast (m' := pure edges) (wi_lst (we_var C 7)) (by first | rfl | simp only [bind_as, pure_b])) (ix := [9]) (by decide) (fun s_ H_ Cc_ cl_ fp_ C => (wg_name C 9)) (fun s_ H_ Cc_ cl_ fp_ edge23 C => WE.cast (m' := idx [edge23.1, edge23.2] side22) (we_ixT (WE.map (we_var C 9) (fun (a : Int × Int) => [a.1, a.2]) t2_tup) (we_var C 8)) (by first | rfl | simp only [bind_as, pure_b])))))) (by first | rfl | simp only [bind_as, pure_b])) (fun bases => ws_fz 3 (fz_lst _) hW rfl (
ws_app C 2 (WE.cast (m' := ((idx part 0) >>= fun t28 => pure (decide (t28 = 1))) >>= fun t29 => (idx part 3) >>= fun t30 => pure (t29, edges, t30)) (we_l3 (we_eq eqs_int (we_ixL (WE.rd (we_var C 5)) we_int) we_int) (we_var C 7) (we_ixL (WE.rd (we_var C 5)) we_int)) (by first | rfl | simp only [bind_as, pure_b])) (fun rows =>
ws_fin rfl (Weak.same (Weak.same (Weak.same (Weak.same (Weak.any (Weak.any (Weak.any (Weak.any (Weak.same (Weak.same Weak.nil))))))))))))))))))) (fun s33 =>
ws_retV C 2 hW rfl)))
def b_law_mixed (rows : List (Bool × (List (Int × Int)) × Int)) (row : List Int) (factor : Int) (mask : Int) : Out ((List (Int × Int)) × (List Int) × (List Int)) :=
(pure ([] : List (Int × Int))) >>= fun ends =>
(pure ([] : List Int)) >>= fun hues =>
(pure mask) >>= fun rest =>
((pure rows) >>= fun xs9 => forO (fun (s1 : Int × (List (Int × Int)) × (List Int)) (x2 : Bool × (List (Int × Int)) × Int) =>
((pure (upto x2.2.1.length)) >>= fun xs7 => forO (fun (s3 : (List (Int × Int)) × (List Int)) (x4 : Int) =>
(idx x2.2.1 x4) >>= fun a5 => appO s3.1 a5 >>= fun ends =>
(pure (((x2.2.2 + x4) + s1.1) % 2)) >>= fun a6 => appO s3.2 a6 >>= fun hues =>
pure (ends, hues)) xs7 (s1.2.1, s1.2.2)) >>= fun s8 =>
(pure (s1.1 / 2)) >>= fun rest =>
pure (rest, s8.1, s8.2)) xs9 (rest, ends, hues)) >>= fun s10 =>
((mapO (fun k11 => ((((mulO (k11 + 1) factor) >>= fun t12 => pure t12) >>= fun t13 => pure (t13 % 1000003)) >>= fun t14 => pure (t14 * 4096)) >>= fun t15 => pure (t15 + k11)) (upto s10.2.1.length)) >>= fun t17 => pure (sortI t17)) >>= fun keys =>
(pure ([] : List (Int × Int))) >>= fun edges =>
(repO [0] (s10.2.1.length : Int)) >>= fun places =>
((pure keys) >>= fun xs37 => forO (fun (s18 : (List (Int × Int)) × (List Int)) (x19 : Int) =>
(pure (x19 % 4096)) >>= fun k =>
(pure (s18.1.length : Int)) >>= fun a20 => (pure k) >>= fun j21 => setO s18.2 j21 a20 >>= fun places =>
(((idx row 4) >>= fun t22 => (idx row 5) >>= fun t23 => (idx row 5) >>= fun t24 => pure [t22, t23, t24]) >>= fun t25 => (idx row 7) >>= fun t26 => idx t25 t26) >>= fun base =>
(((idx row 4) >>= fun t28 => (idx row 6) >>= fun t29 => ((idx s10.2.1 k) >>= fun t27 => pure t27.1) >>= fun t30 => m_law_number t28 t29 t30) >>= fun t34 => ((idx row 6) >>= fun t32 => ((idx s10.2.1 k) >>= fun t31 => pure t31.2) >>= fun t33 => m_law_number base t32 t33) >>= fun t35 => pure (t34, t35)) >>= fun a36 => appO s18.1 a36 >>= fun edges =>
pure (edges, places)) xs37 (edges, places)) >>= fun s38 =>
(mapO (fun key39 => idx s10.2.2 (key39 % 4096)) keys) >>= fun t41 => pure (s38.1, t41, s38.2)
theorem x_law_mixed : ∃ g : (List (Bool × (List (Int × Int)) × Int)) → (List Int) → Int → Int → Out ((List (Int × Int)) × (List Int) × (List Int)), g = b_law_mixed := ⟨_, rfl⟩
def m_law_mixed : (List (Bool × (List (Int × Int)) × Int)) → (List Int) → Int → Int → Out ((List (Int × Int)) × (List Int) × (List Int)) := Classical.choose x_law_mixed
theorem m_law_mixed_eq : m_law_mixed = b_law_mixed := Classical.choose_spec x_law_mixed
abbrev P_law_mixed : Par ((List (Bool × (List (Int × Int)) × Int)) × (List Int) × Int × Int × Unit) := (pC (tLst (tL3 tBool (tLst (tT2 tInt tInt)) tInt)) (pC (tLst tInt) (pC tInt (pC tInt pN))))
abbrev u_law_mixed (i : (List (Bool × (List (Int × Int)) × Int)) × (List Int) × Int × Int × Unit) : Out ((List (Int × Int)) × (List Int) × (List Int)) := m_law_mixed i.1 i.2.1 i.2.2.1 i.2.2.2.1
theorem sc_law_mixed : FnScope ["rows", "row", "factor", "mask", "ends", "hues", "rest", "part", "k", "keys", "edges", "places", "key", "base"] ["rows", "row", "factor", "mask"] (defScope s_law_mixed) := ⟨rfl, rfl, rfl, by decide +kernel, rfl, by decide +kernel, by decide +kernel⟩
abbrev sp_law_mixed (K : PySem.W.Frag) : Sp := Sps P_law_mixed u_law_mixed (tL3 (tLst (tT2 tInt tInt)) (tLst tInt) (tLst tInt)) K
theorem ok_law_mixed {fd : FuncData} (Z : Fre mg) (F : FunD K "_law_mixed" "_law_mixed" (defArgs s_law_mixed) (defBody s_law_mixed) (defScope s_law_mixed) [] [] (He.fAd K ("_law_mixed", none)) fd) (g : mg "_law_mixed" = some (.ref (He.fAd K ("_law_mixed", none)))) (G_law_number : Def Pr w K mg base 1 "_law_number" ["base", "step", "index"] [] (sp_law_number K))  : Def Pr w K mg base 2 "_law_mixed" ["rows", "row", "factor", "mask"] [] (sp_law_mixed K) := by
  refine ⟨_, fd, [], fn_body F sc_law_mixed rfl (by decide) (fun X E B i e1 e2 e3 e4 e5 hW C => ?_), g, F.kp, F.bindsN (fun _ _ _ _ _ _ us hl => match us, hl with | [_, _, _, _], _ => rfl), .nil⟩
  subst e1 e2 e3 e4 e5
  obtain ⟨rows, row, factor, mask, _⟩ := i
  show WS X E B [iS (tLst (tL3 tBool (tLst (tT2 tInt tInt)) tInt)) rows, iS (tLst tInt) row, iS tInt factor, iS tInt mask, .any, .any, .any, .any, .any, .any, .any, .any, .any, .any] [_] (m_law_mixed rows row factor mask) _
  rw [m_law_mixed_eq]
  unfold b_law_mixed
  exact ws_setO C 4 (WO.cast (m' := pure ([] : List (Int × Int))) (wo_lst (wal_nil (T := (tT2 tInt tInt)))) (by first | rfl | simp only [bind_as, pure_b])) (fun ends =>
ws_setO C 5 (WO.cast (m' := pure ([] : List Int)) (wo_lst (wal_nil (T := tInt))) (by first | rfl | simp only [bind_as, pure_b])) (fun hues =>
ws_set C 6 (WE.cast (m' := pure mask) (we_var C 3) (by first | rfl | simp only [bind_as, pure_b])) (fun rest =>
ws_seq (Δ := (fun (s1 : Int × (List (Int × Int)) × (List Int)) => [iS (tLst (tL3 tBool (tLst (tT2 tInt tInt)) tInt)) rows, iS (tLst tInt) row, iS tInt factor, iS tInt mask, .on _ (oLst (tT2 tInt tInt)) s1.2.1, .on _ (oLst tInt) s1.2.2, iS tInt s1.1, .any, .any, .any, .any, .any, .any, .any])) (w1_for C (WI.cast (m' := pure rows) (wi_lst (we_var C 0)) (by first | rfl | simp only [bind_as, pure_b])) (wg_name C 7) (Δ := (fun (s1 : Int × (List (Int × Int)) × (List Int)) => [iS (tLst (tL3 tBool (tLst (tT2 tInt tInt)) tInt)) rows, iS (tLst tInt) row, iS tInt factor, iS tInt mask, .on _ (oLst (tT2 tInt tInt)) s1.2.1, .on _ (oLst tInt) s1.2.2, iS tInt s1.1, .any, .any, .any, .any, .any, .any, .any])) (s0 := (rest, ends, hues)) (Weak.same (Weak.same (Weak.same (Weak.same (Weak.same (Weak.same (Weak.same (Weak.same (Weak.same (Weak.same (Weak.same (Weak.same (Weak.same (Weak.same Weak.nil)))))))))))))) (fun s1 x2 =>
ws_seq (Δ := (fun (s3 : (List (Int × Int)) × (List Int)) => [iS (tLst (tL3 tBool (tLst (tT2 tInt tInt)) tInt)) rows, iS (tLst tInt) row, iS tInt factor, iS tInt mask, .on _ (oLst (tT2 tInt tInt)) s3.1, .on _ (oLst tInt) s3.2, iS tInt s1.1, iS (tL3 tBool (tLst (tT2 tInt tInt)) tInt) x2, .any, .any, .any, .any, .any, .any])) (w1_for C (WI.cast (m' := pure (upto x2.2.1.length)) (wi_rlen C Z rl_len (WE.rd (we_prj pl31 (we_var C 7)))) (by first | rfl | simp only [bind_as, pure_b])) (wg_name C 8) (Δ := (fun (s3 : (List (Int × Int)) × (List Int)) => [iS (tLst (tL3 tBool (tLst (tT2 tInt tInt)) tInt)) rows, iS (tLst tInt) row, iS tInt factor, iS tInt mask, .on _ (oLst (tT2 tInt tInt)) s3.1, .on _ (oLst tInt) s3.2, iS tInt s1.1, iS (tL3 tBool (tLst (tT2 tInt tInt)) tInt) x2, .any, .any, .any, .any, .any, .any])) (s0 := (s1.2.1, s1.2.2)) (Weak.same (Weak.same (Weak.same (Weak.same (Weak.same (Weak.same (Weak.same (Weak.same (Weak.same (Weak.same (Weak.same (Weak.same (Weak.same (Weak.same Weak.nil)))))))))))))) (fun s3 x4 =>
ws_app C 4 (WE.cast (m' := idx x2.2.1 x4) (we_ixL (WE.rd (we_prj pl31 (we_var C 7))) (we_var C 8)) (by first | rfl | simp only [bind_as, pure_b])) (fun ends =>
ws_app C 5 (WE.cast (m' := pure (((x2.2.2 + x4) + s1.1) % 2)) (we_modR (we_intI C Z (we_add (we_add (we_prj pl32 (we_var C 7)) (we_var C 8)) (we_var C 6))) we_int) (by first | rfl | simp only [bind_as, pure_b])) (fun hues =>
ws_fin rfl (Weak.same (Weak.same (Weak.same (Weak.same (Weak.same (Weak.same (Weak.same (Weak.same (Weak.any (Weak.same (Weak.same (Weak.same (Weak.same (Weak.same Weak.nil)))))))))))))))))) (fun s8 =>
ws_set C 6 (WE.cast (m' := pure (s1.1 / 2)) (we_divR (we_var C 6) we_int) (by first | rfl | simp only [bind_as, pure_b])) (fun rest =>
ws_fin rfl (Weak.same (Weak.same (Weak.same (Weak.same (Weak.same (Weak.same (Weak.same (Weak.any (Weak.same (Weak.same (Weak.same (Weak.same (Weak.same (Weak.same Weak.nil)))))))))))))))))) (fun s10 =>
ws_set C 9 (WE.cast (m' := (mapO (fun k11 => ((((mulO (k11 + 1) factor) >>= fun t12 => pure t12) >>= fun t13 => pure (t13 % 1000003)) >>= fun t14 => pure (t14 * 4096)) >>= fun t15 => pure (t15 + k11)) (upto s10.2.1.length)) >>= fun t17 => pure (sortI t17)) (WO.fz (wo_sorted C Z (WO.rd (wo_lc C [("k", 8)] (by decide +kernel) (WI.cast (m' := pure (upto s10.2.1.length)) (wi_rlen C Z rl_len (WE.hr (we_ovar C 4))) (by first | rfl | simp only [bind_as, pure_b])) (ix := [8]) (by decide) (fun s_ H_ Cc_ cl_ fp_ C => (wg_name C 8)) (fun s_ H_ Cc_ cl_ fp_ k11 C => WE.cast (m' := ((((mulO (k11 + 1) factor) >>= fun t12 => pure t12) >>= fun t13 => pure (t13 % 1000003)) >>= fun t14 => pure (t14 * 4096)) >>= fun t15 => pure (t15 + k11)) (we_add (we_mulR (we_modR (we_intI C Z (we_mul (we_add (we_var C 8) we_int) (we_var C 2))) we_int) we_int) (we_var C 8)) (by first | rfl | simp only [bind_as, pure_b]))))) (fz_lst _)) (by first | rfl | simp only [bind_as, pure_b])) (fun keys =>
ws_setO C 10 (WO.cast (m' := pure ([] : List (Int × Int))) (wo_lst (wal_nil (T := (tT2 tInt tInt)))) (by first | rfl | simp only [bind_as, pure_b])) (fun edges =>
ws_setO C 11 (WO.cast (m' := repO [0] (s10.2.1.length : Int)) (wo_rep (WO.rh (wo_lst (wal_cons we_int wal_nil))) (we_lenL C Z (WE.hr (we_ovar C 4)))) (by first | rfl | simp only [bind_as, pure_b])) (fun places =>
ws_seq (Δ := (fun (s18 : (List (Int × Int)) × (List Int)) => [iS (tLst (tL3 tBool (tLst (tT2 tInt tInt)) tInt)) rows, iS (tLst tInt) row, iS tInt factor, iS tInt mask, .on _ (oLst (tT2 tInt tInt)) s10.2.1, .on _ (oLst tInt) s10.2.2, iS tInt s10.1, .any, .any, iS (tLst tInt) keys, .on _ (oLst (tT2 tInt tInt)) s18.1, .on _ (oLst tInt) s18.2, .any, .any])) (w1_for C (WI.cast (m' := pure keys) (wi_lst (we_var C 9)) (by first | rfl | simp only [bind_as, pure_b])) (wg_name C 12) (Δ := (fun (s18 : (List (Int × Int)) × (List Int)) => [iS (tLst (tL3 tBool (tLst (tT2 tInt tInt)) tInt)) rows, iS (tLst tInt) row, iS tInt factor, iS tInt mask, .on _ (oLst (tT2 tInt tInt)) s10.2.1, .on _ (oLst tInt) s10.2.2, iS tInt s10.1, .any, .any, iS (tLst tInt) keys, .on _ (oLst (tT2 tInt tInt)) s18.1, .on _ (oLst tInt) s18.2, .any, .any])) (s0 := (edges, places)) (Weak.same (Weak.same (Weak.same (Weak.same (Weak.same (Weak.same (Weak.same (Weak.same (Weak.same (Weak.same (Weak.same (Weak.same (Weak.same (Weak.same Weak.nil)))))))))))))) (fun s18 x19 =>
ws_set C 8 (WE.cast (m' := pure (x19 % 4096)) (we_modR (we_var C 12) we_int) (by first | rfl | simp only [bind_as, pure_b])) (fun k =>
ws_setI C 11 (WE.cast (m' := pure (s18.1.length : Int)) (we_lenL C Z (WE.hr (we_ovar C 10))) (by first | rfl | simp only [bind_as, pure_b])) (WE.cast (m' := pure k) (we_var C 8) (by first | rfl | simp only [bind_as, pure_b])) (fun places =>
ws_set C 13 (WE.cast (m' := ((idx row 4) >>= fun t22 => (idx row 5) >>= fun t23 => (idx row 5) >>= fun t24 => pure [t22, t23, t24]) >>= fun t25 => (idx row 7) >>= fun t26 => idx t25 t26) (we_ixL (WO.rd (wo_lst (wal_cons (we_ixL (WE.rd (we_var C 1)) we_int) (wal_cons (we_ixL (WE.rd (we_var C 1)) we_int) (wal_cons (we_ixL (WE.rd (we_var C 1)) we_int) wal_nil))))) (we_ixL (WE.rd (we_var C 1)) we_int)) (by first | rfl | simp only [bind_as, pure_b])) (fun base =>
ws_app C 10 (WE.cast (m' := ((idx row 4) >>= fun t28 => (idx row 6) >>= fun t29 => ((idx s10.2.1 k) >>= fun t27 => pure t27.1) >>= fun t30 => m_law_number t28 t29 t30) >>= fun t34 => ((idx row 6) >>= fun t32 => ((idx s10.2.1 k) >>= fun t31 => pure t31.2) >>= fun t33 => m_law_number base t32 t33) >>= fun t35 => pure (t34, t35)) (we_t2 (we_call C G_law_number (by decide) (wa_cons (R := tInt.rl) (we_ixL (WE.rd (we_var C 1)) we_int) fun a0 => wa_cons (R := tInt.rl) (we_ixL (WE.rd (we_var C 1)) we_int) fun a1 => wa_cons (R := tInt.rl) (we_prj pj20 (we_ixL (WE.hr (we_ovar C 4)) (we_var C 8))) fun a2 => wa_nil fun K F H s v2 r2 v1 r1 v0 r0 => ⟨(a0, a1, a2, ()), rfl, v0, _, rfl, r0, v1, _, rfl, r1, v2, _, rfl, r2, rfl⟩)) (we_call C G_law_number (by decide) (wa_cons (R := tInt.rl) (we_var C 13) fun a0 => wa_cons (R := tInt.rl) (we_ixL (WE.rd (we_var C 1)) we_int) fun a1 => wa_cons (R := tInt.rl) (we_prj pj21 (we_ixL (WE.hr (we_ovar C 4)) (we_var C 8))) fun a2 => wa_nil fun K F H s v2 r2 v1 r1 v0 r0 => ⟨(a0, a1, a2, ()), rfl, v0, _, rfl, r0, v1, _, rfl, r1, v2, _, rfl, r2, rfl⟩))) (by first | (simp only [pure_b, bind_as]; done) | rfl)) (fun edges =>
ws_fin rfl (Weak.same (Weak.same (Weak.same (Weak.same (Weak.same (Weak.same (Weak.same (Weak.same (Weak.any (Weak.same (Weak.same (Weak.same (Weak.any (Weak.any Weak.nil)))))))))))))))))))) (fun s38 =>
ws_fz 10 (fz_lst _) hW rfl (
ws_fz 11 (fz_lst _) hW rfl (
ws_ret0 (WE.cast (m' := (mapO (fun key39 => idx s10.2.2 (key39 % 4096)) keys) >>= fun t41 => pure (s38.1, t41, s38.2)) (we_l3 (we_var C 10) (WO.fz (wo_lc C [("key", 12)] (by decide +kernel) (WI.cast (m' := pure keys) (wi_lst (we_var C 9)) (by first | rfl | simp only [bind_as, pure_b])) (ix := [12]) (by decide) (fun s_ H_ Cc_ cl_ fp_ C => (wg_name C 12)) (fun s_ H_ Cc_ cl_ fp_ key39 C => WE.cast (m' := idx s10.2.2 (key39 % 4096)) (we_ixL (WE.hr (we_ovar C 5)) (we_modR (we_var C 12) we_int)) (by first | rfl | simp only [bind_as, pure_b]))) (fz_lst _)) (we_var C 11)) (by first | rfl | simp only [bind_as, pure_b])) (fun _ => rfl)))))))))))
def b_law_due (rows : List (Bool × (List (Int × Int)) × Int)) (places : List Int) (exchanged : Int) : Out (List (List Int)) :=
(pure ([] : List (List Int))) >>= fun opened =>
(pure ([] : List (List Int))) >>= fun closed =>
(pure 0) >>= fun start =>
((pure rows) >>= fun xs27 => forO (fun (s1 : Int × (List (List Int)) × (List (List Int))) (x2 : Bool × (List (Int × Int)) × Int) =>
(pure (x2.2.1.length : Int)) >>= fun size =>
(pure (cut places (some s1.1) (some (s1.1 + size)))) >>= fun chain =>
(pure (s1.1 + size)) >>= fun start =>
((minL chain) >>= fun t3 => indexO chain t3) >>= fun first =>
(if x2.1 = true then pure (decide ((first + exchanged) % 2 = 0)) else pure false) >>= fun c4 => if c4 = true then (
(((rangeO size) >>= fun t7 => mapO (fun k5 => (modO (first + k5) size) >>= fun t6 => idx chain t6) t7) >>= fun t9 => pure t9) >>= fun a10 => appO s1.2.1 a10 >>= fun closed =>
pure (start, closed, s1.2.2))
else (
(pure x2.1) >>= fun c11 => if c11 = true then (
(((rangeO size) >>= fun t14 => mapO (fun k12 => (modO ((first + size) - k12) size) >>= fun t13 => idx chain t13) t14) >>= fun t16 => pure t16) >>= fun a17 => appO s1.2.1 a17 >>= fun closed =>
pure (start, closed, s1.2.2))
else (
((idx chain 0) >>= fun t18 => (idx chain (size - 1)) >>= fun t19 => pure (decide (t19 < t18))) >>= fun c20 => if c20 = true then (
(((rangeO size) >>= fun t22 => mapO (fun k21 => idx chain ((size - 1) - k21)) t22) >>= fun t24 => pure t24) >>= fun a25 => appO s1.2.2 a25 >>= fun opened =>
pure (start, s1.2.1, opened))
else (
(pure chain) >>= fun a26 => appO s1.2.2 a26 >>= fun opened =>
pure (start, s1.2.1, opened))))) xs27 (start, closed, opened)) >>= fun s28 =>
((sortTO s28.2.2) >>= fun t29 => (sortTO s28.2.1) >>= fun t30 => catO t29 t30) >>= fun t31 => pure t31
theorem x_law_due : ∃ g : (List (Bool × (List (Int × Int)) × Int)) → (List Int) → Int → Out (List (List Int)), g = b_law_due := ⟨_, rfl⟩
def m_law_due : (List (Bool × (List (Int × Int)) × Int)) → (List Int) → Int → Out (List (List Int)) := Classical.choose x_law_due
theorem m_law_due_eq : m_law_due = b_law_due := Classical.choose_spec x_law_due
abbrev P_law_due : Par ((List (Bool × (List (Int × Int)) × Int)) × (List Int) × Int × Unit) := (pC (tLst (tL3 tBool (tLst (tT2 tInt tInt)) tInt)) (pC (tLst tInt) (pC tInt pN)))
abbrev u_law_due (i : (List (Bool × (List (Int × Int)) × Int)) × (List Int) × Int × Unit) : Out (List (List Int)) := m_law_due i.1 i.2.1 i.2.2.1
theorem sc_law_due : FnScope ["rows", "places", "exchanged", "opened", "closed", "start", "part", "size", "chain", "first", "k"] ["rows", "places", "exchanged"] (defScope s_law_due) := ⟨rfl, rfl, rfl, by decide +kernel, rfl, by decide +kernel, by decide +kernel⟩
abbrev sp_law_due (K : PySem.W.Frag) : Sp := Sps P_law_due u_law_due (tTup (tTup tInt)) K
theorem ok_law_due {fd : FuncData} (Z : Fre mg) (F : FunD K "_law_due" "_law_due" (defArgs s_law_due) (defBody s_law_due) (defScope s_law_due) [] [] (He.fAd K ("_law_due", none)) fd) (g : mg "_law_due" = some (.ref (He.fAd K ("_law_due", none))))   : Def Pr w K mg base 1 "_law_due" ["rows", "places", "exchanged"] [] (sp_law_due K) := by
  refine ⟨_, fd, [], fn_body F sc_law_due rfl (by decide) (fun X E B i e1 e2 e3 e4 e5 hW C => ?_), g, F.kp, F.bindsN (fun _ _ _ _ _ _ us hl => match us, hl with | [_, _, _], _ => rfl), .nil⟩
  subst e1 e2 e3 e4 e5
  obtain ⟨rows, places, exchanged, _⟩ := i
  show WS X E B [iS (tLst (tL3 tBool (tLst (tT2 tInt tInt)) tInt)) rows, iS (tLst tInt) places, iS tInt exchanged, .any, .any, .any, .any, .any, .any, .any, .any] [_] (m_law_due rows places exchanged) _
  rw [m_law_due_eq]
  unfold b_law_due
  exact ws_setO C 3 (WO.cast (m' := pure ([] : List (List Int))) (wo_lst (wal_nil (T := (tTup tInt)))) (by first | rfl | simp only [bind_as, pure_b])) (fun opened =>
ws_setO C 4 (WO.cast (m' := pure ([] : List (List Int))) (wo_lst (wal_nil (T := (tTup tInt)))) (by first | rfl | simp only [bind_as, pure_b])) (fun closed =>
ws_set C 5 (WE.cast (m' := pure 0) we_int (by first | rfl | simp only [bind_as, pure_b])) (fun start =>
ws_seq (Δ := (fun (s1 : Int × (List (List Int)) × (List (List Int))) => [iS (tLst (tL3 tBool (tLst (tT2 tInt tInt)) tInt)) rows, iS (tLst tInt) places, iS tInt exchanged, .on _ (oLst (tTup tInt)) s1.2.2, .on _ (oLst (tTup tInt)) s1.2.1, iS tInt s1.1, .any, .any, .any, .any, .any])) (w1_for C (WI.cast (m' := pure rows) (wi_lst (we_var C 0)) (by first | rfl | simp only [bind_as, pure_b])) (wg_name C 6) (Δ := (fun (s1 : Int × (List (List Int)) × (List (List Int))) => [iS (tLst (tL3 tBool (tLst (tT2 tInt tInt)) tInt)) rows, iS (tLst tInt) places, iS tInt exchanged, .on _ (oLst (tTup tInt)) s1.2.2, .on _ (oLst (tTup tInt)) s1.2.1, iS tInt s1.1, .any, .any, .any, .any, .any])) (s0 := (start, closed, opened)) (Weak.same (Weak.same (Weak.same (Weak.same (Weak.same (Weak.same (Weak.same (Weak.same (Weak.same (Weak.same (Weak.same Weak.nil))))))))))) (fun s1 x2 =>
ws_set C 7 (WE.cast (m' := pure (x2.2.1.length : Int)) (we_lenL C Z (WE.rd (we_prj pl31 (we_var C 6)))) (by first | rfl | simp only [bind_as, pure_b])) (fun size =>
ws_set C 8 (WE.cast (m' := pure (cut places (some s1.1) (some (s1.1 + size)))) (WO.fz (wo_cut (WE.rd (we_var C 1)) (wp_is (we_var C 5)) (wp_is (we_add (we_var C 5) (we_var C 7)))) (fz_lst _)) (by first | rfl | simp only [bind_as, pure_b])) (fun chain =>
ws_set C 5 (WE.cast (m' := pure (s1.1 + size)) (we_add (we_var C 5) (we_var C 7)) (by first | rfl | simp only [bind_as, pure_b])) (fun start =>
ws_set C 9 (WE.cast (m' := (minL chain) >>= fun t3 => indexO chain t3) (we_indexL C eqf_int (WE.rd (we_var C 8)) (we_minL C Z (WE.rd (we_var C 8)))) (by first | rfl | simp only [bind_as, pure_b])) (fun first =>
ws_if (WT.cast (m' := if x2.1 = true then pure (decide ((first + exchanged) % 2 = 0)) else pure false) (wt_b (wb_and (wt_val (we_prj pl30 (we_var C 6))) (wb_and1 (wt_eq eqs_int (we_modR (we_intI C Z (we_add (we_var C 9) (we_var C 2))) we_int) we_int)))) (by first | rfl | simp only [bind_as, pure_b])) (
ws_app C 4 (WE.cast (m' := ((rangeO size) >>= fun t7 => mapO (fun k5 => (modO (first + k5) size) >>= fun t6 => idx chain t6) t7) >>= fun t9 => pure t9) (we_tuple C Z (WO.rd (wo_lc C [("k", 10)] (by decide +kernel) (WI.cast (m' := rangeO size) (wi_range C Z (we_var C 7)) (by first | rfl | simp only [bind_as, pure_b])) (ix := [10]) (by decide) (fun s_ H_ Cc_ cl_ fp_ C => (wg_name C 10)) (fun s_ H_ Cc_ cl_ fp_ k5 C => WE.cast (m' := (modO (first + k5) size) >>= fun t6 => idx chain t6) (we_ixL (WE.rd (we_var C 8)) (we_mod (we_intI C Z (we_add (we_var C 9) (we_var C 10))) (we_var C 7))) (by first | rfl | simp only [bind_as, pure_b]))))) (by first | rfl | simp only [bind_as, pure_b])) (fun closed =>
ws_pop (ws_fin rfl (Weak.same (Weak.same (Weak.same (Weak.same (Weak.same (Weak.same (Weak.any (Weak.any (Weak.any (Weak.any (Weak.same Weak.nil)))))))))))))) (
ws_if (WT.cast (m' := pure x2.1) (wt_val (we_prj pl30 (we_var C 6))) (by first | rfl | simp only [bind_as, pure_b])) (
ws_app C 4 (WE.cast (m' := ((rangeO size) >>= fun t14 => mapO (fun k12 => (modO ((first + size) - k12) size) >>= fun t13 => idx chain t13) t14) >>= fun t16 => pure t16) (we_tuple C Z (WO.rd (wo_lc C [("k", 10)] (by decide +kernel) (WI.cast (m' := rangeO size) (wi_range C Z (we_var C 7)) (by first | rfl | simp only [bind_as, pure_b])) (ix := [10]) (by decide) (fun s_ H_ Cc_ cl_ fp_ C => (wg_name C 10)) (fun s_ H_ Cc_ cl_ fp_ k12 C => WE.cast (m' := (modO ((first + size) - k12) size) >>= fun t13 => idx chain t13) (we_ixL (WE.rd (we_var C 8)) (we_mod (we_intI C Z (we_sub (we_add (we_var C 9) (we_var C 7)) (we_var C 10))) (we_var C 7))) (by first | rfl | simp only [bind_as, pure_b]))))) (by first | rfl | simp only [bind_as, pure_b])) (fun closed =>
ws_pop (ws_pop (ws_fin rfl (Weak.same (Weak.same (Weak.same (Weak.same (Weak.same (Weak.same (Weak.any (Weak.any (Weak.any (Weak.any (Weak.same Weak.nil))))))))))))))) (
ws_if (WT.cast (m' := (idx chain 0) >>= fun t18 => (idx chain (size - 1)) >>= fun t19 => pure (decide (t19 < t18))) (wt_gt (we_ixL (WE.rd (we_var C 8)) we_int) (we_ixL (WE.rd (we_var C 8)) (we_sub (we_var C 7) we_int))) (by first | rfl | simp only [bind_as, pure_b])) (
ws_app C 3 (WE.cast (m' := ((rangeO size) >>= fun t22 => mapO (fun k21 => idx chain ((size - 1) - k21)) t22) >>= fun t24 => pure t24) (we_tuple C Z (WO.rd (wo_lc C [("k", 10)] (by decide +kernel) (WI.cast (m' := rangeO size) (wi_range C Z (we_var C 7)) (by first | rfl | simp only [bind_as, pure_b])) (ix := [10]) (by decide) (fun s_ H_ Cc_ cl_ fp_ C => (wg_name C 10)) (fun s_ H_ Cc_ cl_ fp_ k21 C => WE.cast (m' := idx chain ((size - 1) - k21)) (we_ixL (WE.rd (we_var C 8)) (we_sub (we_sub (we_var C 7) we_int) (we_var C 10))) (by first | rfl | simp only [bind_as, pure_b]))))) (by first | rfl | simp only [bind_as, pure_b])) (fun opened =>
ws_pop (ws_pop (ws_pop (ws_fin rfl (Weak.same (Weak.same (Weak.same (Weak.same (Weak.same (Weak.same (Weak.any (Weak.any (Weak.any (Weak.any (Weak.same Weak.nil)))))))))))))))) (
ws_app C 3 (WE.cast (m' := pure chain) (we_tuple C Z (WE.rd (we_var C 8))) (by first | rfl | simp only [bind_as, pure_b])) (fun opened =>
ws_pop (ws_pop (ws_pop (ws_fin rfl (Weak.same (Weak.same (Weak.same (Weak.same (Weak.same (Weak.same (Weak.any (Weak.any (Weak.any (Weak.any (Weak.same Weak.nil)))))))))))))))))))))))) (fun s28 =>
ws_ret0 (WE.cast (m' := ((sortTO s28.2.2) >>= fun t29 => (sortTO s28.2.1) >>= fun t30 => catO t29 t30) >>= fun t31 => pure t31) (we_tuple C Z (WO.rd (wo_cat (WO.rh (wo_sortTup C Z (WE.hr (we_ovar C 3)))) (WO.rh (wo_sortTup C Z (WE.hr (we_ovar C 4))))))) (by first | rfl | simp only [bind_as, pure_b])) (fun _ => rfl)))))
def b_law_whole (value : Int) : Out Bool :=
if true = true then pure (!false) else pure false
theorem x_law_whole : ∃ g : Int → Out Bool, g = b_law_whole := ⟨_, rfl⟩
def m_law_whole : Int → Out Bool := Classical.choose x_law_whole
theorem m_law_whole_eq : m_law_whole = b_law_whole := Classical.choose_spec x_law_whole
abbrev P_law_whole : Par (Int × Unit) := (pC tInt pN)
abbrev u_law_whole (i : Int × Unit) : Out Bool := m_law_whole i.1
theorem sc_law_whole : FnScope ["value"] ["value"] (defScope s_law_whole) := ⟨rfl, rfl, rfl, by decide +kernel, rfl, by decide +kernel, by decide +kernel⟩
abbrev sp_law_whole (K : PySem.W.Frag) : Sp := Sps P_law_whole u_law_whole tBool K
theorem ok_law_whole {fd : FuncData} (Z : Fre mg) (F : FunD K "_law_whole" "_law_whole" (defArgs s_law_whole) (defBody s_law_whole) (defScope s_law_whole) [] [] (He.fAd K ("_law_whole", none)) fd) (g : mg "_law_whole" = some (.ref (He.fAd K ("_law_whole", none))))   : Def Pr w K mg base 1 "_law_whole" ["value"] [] (sp_law_whole K) := by
  refine ⟨_, fd, [], fn_body F sc_law_whole rfl (by decide) (fun X E B i e1 e2 e3 e4 e5 hW C => ?_), g, F.kp, F.bindsN (fun _ _ _ _ _ _ us hl => match us, hl with | [_], _ => rfl), .nil⟩
  subst e1 e2 e3 e4 e5
  obtain ⟨value, _⟩ := i
  show WS X E B [iS tInt value] [_] (m_law_whole value) _
  rw [m_law_whole_eq]
  unfold b_law_whole
  exact ws_ret0 (WE.cast (m' := if true = true then pure (!false) else pure false) (we_and (we_isi C Z (cn := "int") (fun _ => true) ty_int (fun _ => by decide +kernel) (we_var C 0) Z.int (by decide +kernel)) (we_bo1 (we_not (we_isi C Z (cn := "bool") (fun _ => false) ty_int (fun _ => by decide +kernel) (we_var C 0) Z.bool (by decide +kernel))))) (by first | rfl | simp only [bind_as, pure_b])) (fun _ => rfl)
def b_law_same (actual : List (List Int)) (due : List (List Int)) : Out Bool :=
(if (!true) = true then pure true else pure (!decide ((actual.length : Int) = (due.length : Int)))) >>= fun c1 => if c1 = true then (
pure false)
else (
((pure (upto due.length)) >>= fun xs22 => forR (fun (s2 : Unit) (x3 : Int) =>
((((idx actual x3) >>= fun t4 => pure true) >>= fun t5 => pure (!t5)) >>= fun t10 => if t10 = true then pure true else ((idx actual x3) >>= fun t6 => pure (t6.length : Int)) >>= fun t8 => ((idx due x3) >>= fun t7 => pure (t7.length : Int)) >>= fun t9 => pure (!decide (t8 = t9))) >>= fun c11 => if c11 = true then (
(pure false) >>= fun r12 => pure (Step.rt r12))
else (
((idx actual x3) >>= fun xs18 => forR (fun (s13 : Unit) (x14 : Int) =>
((m_law_whole x14) >>= fun t15 => pure (!t15)) >>= fun c16 => if c16 = true then (
(pure false) >>= fun r17 => pure (Step.rt r17))
else (
pure (Step.nx ()))) xs18 ()) >>= fun t21 => (match t21 with
| Step.rt r20 => pure (Step.rt r20)
| Step.nx s19 =>
pure (Step.nx ())))) xs22 ()) >>= fun t25 => (match t25 with
| Step.rt r24 => pure r24
| Step.nx s23 =>
pure (decide (actual = due))))
theorem x_law_same : ∃ g : (List (List Int)) → (List (List Int)) → Out Bool, g = b_law_same := ⟨_, rfl⟩
def m_law_same : (List (List Int)) → (List (List Int)) → Out Bool := Classical.choose x_law_same
theorem m_law_same_eq : m_law_same = b_law_same := Classical.choose_spec x_law_same
abbrev P_law_same : Par ((List (List Int)) × (List (List Int)) × Unit) := (pC (tTup (tTup tInt)) (pC (tTup (tTup tInt)) pN))
abbrev u_law_same (i : (List (List Int)) × (List (List Int)) × Unit) : Out Bool := m_law_same i.1 i.2.1
theorem sc_law_same : FnScope ["actual", "due", "k", "index"] ["actual", "due"] (defScope s_law_same) := ⟨rfl, rfl, rfl, by decide +kernel, rfl, by decide +kernel, by decide +kernel⟩
abbrev sp_law_same (K : PySem.W.Frag) : Sp := Sps P_law_same u_law_same tBool K
theorem ok_law_same {fd : FuncData} (Z : Fre mg) (F : FunD K "_law_same" "_law_same" (defArgs s_law_same) (defBody s_law_same) (defScope s_law_same) [] [] (He.fAd K ("_law_same", none)) fd) (g : mg "_law_same" = some (.ref (He.fAd K ("_law_same", none)))) (G_law_whole : Def Pr w K mg base 1 "_law_whole" ["value"] [] (sp_law_whole K))  : Def Pr w K mg base 2 "_law_same" ["actual", "due"] [] (sp_law_same K) := by
  refine ⟨_, fd, [], fn_body F sc_law_same rfl (by decide) (fun X E B i e1 e2 e3 e4 e5 hW C => ?_), g, F.kp, F.bindsN (fun _ _ _ _ _ _ us hl => match us, hl with | [_, _], _ => rfl), .nil⟩
  subst e1 e2 e3 e4 e5
  obtain ⟨actual, due, _⟩ := i
  show WS X E B [iS (tTup (tTup tInt)) actual, iS (tTup (tTup tInt)) due, .any, .any] [_] (m_law_same actual due) _
  rw [m_law_same_eq]
  unfold b_law_same
  exact ws_if (WT.cast (m' := if (!true) = true then pure true else pure (!decide ((actual.length : Int) = (due.length : Int)))) (wt_b (wb_or (wt_not (wt_val (we_isi C Z (cn := "tuple") (fun _ => true) ty_tup (fun _ => by decide +kernel) (we_var C 0) Z.tuple (by decide +kernel)))) (wb_or1 (wt_ne eqs_int (we_lenT C Z (we_var C 0)) (we_lenT C Z (we_var C 1)))))) (by first | rfl | simp only [bind_as, pure_b])) (
ws_ret0 (WE.cast (m' := pure false) we_bl (by first | rfl | simp only [bind_as, pure_b])) (fun _ => rfl)) (
ws_pop (ws_cons (D1 := DR (fun (s2 : Unit) => [iS (tTup (tTup tInt)) actual, iS (tTup (tTup tInt)) due, .any, .any]) (fun b => .rt _ tBool b)) (w1_forR C (WI.cast (m' := pure (upto due.length)) (wi_rlen C Z tt_len (we_var C 1)) (by first | rfl | simp only [bind_as, pure_b])) (wg_name C 2) (Δ := (fun (s2 : Unit) => [iS (tTup (tTup tInt)) actual, iS (tTup (tTup tInt)) due, .any, .any])) (s0 := ()) (Rt := (fun b => .rt _ tBool b)) (Weak.same (Weak.same (Weak.same (Weak.same Weak.nil)))) (fun s2 x3 =>
ws_if (WT.cast (m' := (((idx actual x3) >>= fun t4 => pure true) >>= fun t5 => pure (!t5)) >>= fun t10 => if t10 = true then pure true else ((idx actual x3) >>= fun t6 => pure (t6.length : Int)) >>= fun t8 => ((idx due x3) >>= fun t7 => pure (t7.length : Int)) >>= fun t9 => pure (!decide (t8 = t9))) (wt_b (wb_or (wt_not (wt_val (we_isi C Z (cn := "tuple") (fun _ => true) ty_tup (fun _ => by decide +kernel) (we_ixT (we_var C 0) (we_var C 2)) Z.tuple (by decide +kernel)))) (wb_or1 (wt_ne eqs_int (we_lenT C Z (we_ixT (we_var C 0) (we_var C 2))) (we_lenT C Z (we_ixT (we_var C 1) (we_var C 2))))))) (by first | rfl | simp only [bind_as, pure_b])) (
ws_ret (g := Step.rt) (WE.cast (m' := pure false) we_bl (by first | rfl | simp only [bind_as, pure_b])) (fun _ => rfl)) (
ws_pop (ws_cons (D1 := DR (fun (s13 : Unit) => [iS (tTup (tTup tInt)) actual, iS (tTup (tTup tInt)) due, iS tInt x3, .any]) (fun b => .rt _ tBool b)) (w1_forR C (WI.cast (m' := idx actual x3) (wi_tup (we_ixT (we_var C 0) (we_var C 2))) (by first | rfl | simp only [bind_as, pure_b])) (wg_name C 3) (Δ := (fun (s13 : Unit) => [iS (tTup (tTup tInt)) actual, iS (tTup (tTup tInt)) due, iS tInt x3, .any])) (s0 := ()) (Rt := (fun b => .rt _ tBool b)) (Weak.same (Weak.same (Weak.same (Weak.same Weak.nil)))) (fun s13 x14 =>
ws_if (WT.cast (m' := (m_law_whole x14) >>= fun t15 => pure (!t15)) (wt_not (wt_val (we_call C G_law_whole (by decide) (wa_cons (R := tInt.rl) (we_var C 3) fun a0 => wa_nil fun K F H s v0 r0 => ⟨(a0, ()), rfl, v0, _, rfl, r0, rfl⟩)))) (by first | (simp only [pure_b, bind_as]; done) | rfl)) (
ws_ret (g := Step.rt) (WE.cast (m' := pure false) we_bl (by first | rfl | simp only [bind_as, pure_b])) (fun _ => rfl)) (
ws_pop (ws_fin rfl (Weak.same (Weak.same (Weak.same (Weak.any Weak.nil))))))) (fun r => .inl ⟨_, _, _, rfl⟩)) (fun t21 => match t21 with
| Step.rt r20 => .inr ⟨trivial, (Step.rt r20), rfl, rfl⟩
| Step.nx s19 => .inl ⟨_, rfl, (
ws_fin rfl (Weak.same (Weak.same (Weak.any (Weak.same Weak.nil)))))⟩)))) (fun r => .inl ⟨_, _, _, rfl⟩)) (fun t25 => match t25 with
| Step.rt r24 => .inr ⟨trivial, r24, rfl, rfl⟩
| Step.nx s23 => .inl ⟨_, rfl, (
ws_ret0 (WE.cast (m' := pure (decide (actual = due))) (we_eqD C (cTup (cTup cInt)) (dp_tup (dp_tup dp_int)).r (dp_tup (dp_tup dp_int)).r (we_var C 0) (we_var C 1)) (by first | rfl | simp only [bind_as, pure_b])) (fun _ => rfl))⟩)))
def b_meeting_edges (edges : List (List Int)) : Out (List (List (Int × (List Int)))) :=
(pure ([[], []] : List (List (Int × List Int)))) >>= fun meeting =>
((pure (enumL edges)) >>= fun xs11 => forO (fun (s1 : (List (List (Int × List Int)))) (x2 : Int × (List Int)) =>
((pure (upto 2)) >>= fun xs9 => forO (fun (s3 : (List (List (Int × List Int)))) (x4 : Int) =>
(pure x4) >>= fun a6 => meetG s3 a6 >>= fun j5 => (idx x2.2 x4) >>= fun a7 => (pure x2.1) >>= fun a8 => pure (meetS s3 j5 a7 a8) >>= fun meeting =>
pure meeting) xs9 s1) >>= fun s10 =>
pure s10) xs11 meeting) >>= fun s12 =>
pure s12
theorem x_meeting_edges : ∃ g : (List (List Int)) → Out (List (List (Int × (List Int)))), g = b_meeting_edges := ⟨_, rfl⟩
def m_meeting_edges : (List (List Int)) → Out (List (List (Int × (List Int)))) := Classical.choose x_meeting_edges
theorem m_meeting_edges_eq : m_meeting_edges = b_meeting_edges := Classical.choose_spec x_meeting_edges
abbrev P_meeting_edges : Par ((List (List Int)) × Unit) := (pC (tTup (tTup tInt)) pN)
abbrev u_meeting_edges (i : (List (List Int)) × Unit) : Out (List (List (Int × (List Int)))) := m_meeting_edges i.1
theorem sc_meeting_edges : FnScope ["edges", "meeting", "index", "ends", "side"] ["edges"] (defScope s_meeting_edges) := ⟨rfl, rfl, rfl, by decide +kernel, rfl, by decide +kernel, by decide +kernel⟩
abbrev sp_meeting_edges (K : PySem.W.Frag) : Sp := Sps P_meeting_edges u_meeting_edges (tTup (tDic (tLst tInt))) K
theorem ok_meeting_edges {fd : FuncData} (Z : Fre mg) (F : FunD K "meeting_edges" "meeting_edges" (defArgs s_meeting_edges) (defBody s_meeting_edges) (defScope s_meeting_edges) [] [] (He.fAd K ("meeting_edges", none)) fd) (g : mg "meeting_edges" = some (.ref (He.fAd K ("meeting_edges", none))))   : Def Pr w K mg base 1 "meeting_edges" ["edges"] [] (sp_meeting_edges K) := by
  refine ⟨_, fd, [], fn_body F sc_meeting_edges rfl (by decide) (fun X E B i e1 e2 e3 e4 e5 hW C => ?_), g, F.kp, F.bindsN (fun _ _ _ _ _ _ us hl => match us, hl with | [_], _ => rfl), .nil⟩
  subst e1 e2 e3 e4 e5
  obtain ⟨edges, _⟩ := i
  show WS X E B [iS (tTup (tTup tInt)) edges, .any, .any, .any, .any] [_] (m_meeting_edges edges) _
  rw [m_meeting_edges_eq]
  unfold b_meeting_edges
  exact ws_setO C 1 (WO.cast (m' := pure ([[], []] : List (List (Int × List Int)))) wo_meet0 (by first | rfl | simp only [bind_as, pure_b])) (fun meeting =>
ws_seq (Δ := (fun (s1 : (List (List (Int × List Int)))) => [iS (tTup (tTup tInt)) edges, .on _ oMeet s1, .any, .any, .any])) (w1_for C (WI.cast (m' := pure (enumL edges)) (wi_enumT C Z (we_var C 0)) (by first | rfl | simp only [bind_as, pure_b])) (wg_t2 C (wg_name C 2) (wg_name C 3)) (Δ := (fun (s1 : (List (List (Int × List Int)))) => [iS (tTup (tTup tInt)) edges, .on _ oMeet s1, .any, .any, .any])) (s0 := meeting) (Weak.same (Weak.same (Weak.same (Weak.same (Weak.same Weak.nil))))) (fun s1 x2 =>
ws_seq (Δ := (fun (s3 : (List (List (Int × List Int)))) => [iS (tTup (tTup tInt)) edges, .on _ oMeet s3, iS tInt x2.1, iS (tTup tInt) x2.2, .any])) (w1_for C (WI.cast (m' := pure (upto 2)) (WI.cast (wi_range C Z we_int) rfl) (by first | rfl | simp only [bind_as, pure_b])) (wg_name C 4) (Δ := (fun (s3 : (List (List (Int × List Int)))) => [iS (tTup (tTup tInt)) edges, .on _ oMeet s3, iS tInt x2.1, iS (tTup tInt) x2.2, .any])) (s0 := s1) (Weak.same (Weak.same (Weak.same (Weak.same (Weak.same Weak.nil))))) (fun s3 x4 =>
ws_meet C 1 (WE.cast (m' := pure x4) (we_var C 4) (by first | rfl | simp only [bind_as, pure_b])) (WE.cast (m' := idx x2.2 x4) (we_ixT (we_var C 3) (we_var C 4)) (by first | rfl | simp only [bind_as, pure_b])) (WE.cast (m' := pure x2.1) (we_var C 2) (by first | rfl | simp only [bind_as, pure_b])) (fun meeting =>
ws_fin rfl (Weak.same (Weak.same (Weak.same (Weak.same (Weak.any Weak.nil)))))))) (fun s10 =>
ws_fin rfl (Weak.same (Weak.same (Weak.any (Weak.any (Weak.same Weak.nil)))))))) (fun s12 =>
ws_fz 1 fz_meet hW rfl (
ws_ret0 (WE.cast (m' := pure s12) (we_var C 1) (by first | rfl | simp only [bind_as, pure_b])) (fun _ => rfl))))
def b_other_edge (edges : List (List Int)) (meeting : List (List (Int × (List Int)))) (index : Int) (side : Int) : Out (Option Int) :=
(((idx meeting side) >>= fun t2 => ((idx edges index) >>= fun t1 => idx t1 side) >>= fun t3 => dgetO t2 t3) >>= fun xs6 => compO (fun other4 => ifO (pure (!decide (other4 = index))) (pure other4)) xs6) >>= fun others =>
if (!others.isEmpty) = true then (idx others 0) >>= fun t7 => pure (some t7) else pure none
theorem x_other_edge : ∃ g : (List (List Int)) → (List (List (Int × (List Int)))) → Int → Int → Out (Option Int), g = b_other_edge := ⟨_, rfl⟩
def m_other_edge : (List (List Int)) → (List (List (Int × (List Int)))) → Int → Int → Out (Option Int) := Classical.choose x_other_edge
theorem m_other_edge_eq : m_other_edge = b_other_edge := Classical.choose_spec x_other_edge
abbrev P_other_edge : Par ((List (List Int)) × (List (List (Int × (List Int)))) × Int × Int × Unit) := (pC (tTup (tTup tInt)) (pC (tTup (tDic (tLst tInt))) (pC tInt (pC tInt pN))))
abbrev u_other_edge (i : (List (List Int)) × (List (List (Int × (List Int)))) × Int × Int × Unit) : Out (Option Int) := m_other_edge i.1 i.2.1 i.2.2.1 i.2.2.2.1
theorem sc_other_edge : FnScope ["edges", "meeting", "index", "side", "others", "other"] ["edges", "meeting", "index", "side"] (defScope s_other_edge) := ⟨rfl, rfl, rfl, by decide +kernel, rfl, by decide +kernel, by decide +kernel⟩
abbrev sp_other_edge (K : PySem.W.Frag) : Sp := Sps P_other_edge u_other_edge (tOpt tInt) K
theorem ok_other_edge {fd : FuncData} (Z : Fre mg) (F : FunD K "other_edge" "other_edge" (defArgs s_other_edge) (defBody s_other_edge) (defScope s_other_edge) [] [] (He.fAd K ("other_edge", none)) fd) (g : mg "other_edge" = some (.ref (He.fAd K ("other_edge", none))))   : Def Pr w K mg base 1 "other_edge" ["edges", "meeting", "index", "side"] [] (sp_other_edge K) := by
  refine ⟨_, fd, [], fn_body F sc_other_edge rfl (by decide) (fun X E B i e1 e2 e3 e4 e5 hW C => ?_), g, F.kp, F.bindsN (fun _ _ _ _ _ _ us hl => match us, hl with | [_, _, _, _], _ => rfl), .nil⟩
  subst e1 e2 e3 e4 e5
  obtain ⟨edges, meeting, index, side, _⟩ := i
  show WS X E B [iS (tTup (tTup tInt)) edges, iS (tTup (tDic (tLst tInt))) meeting, iS tInt index, iS tInt side, .any, .any] [_] (m_other_edge edges meeting index side) _
  rw [m_other_edge_eq]
  unfold b_other_edge
  exact ws_lcif (f := _) C 4 [("other", 5)] (by decide +kernel) (WI.cast (m' := (idx meeting side) >>= fun t2 => ((idx edges index) >>= fun t1 => idx t1 side) >>= fun t3 => dgetO t2 t3) (wi_lst (we_dget C (we_ixT (we_var C 1) (we_var C 3)) (we_ixT (we_ixT (we_var C 0) (we_var C 2)) (we_var C 3)))) (by first | rfl | simp only [bind_as, pure_b])) (ix := [5]) (by decide) (fun s_ H_ Cc_ cl_ fp_ C => (wg_name C 5)) (fun s_ H_ Cc_ cl_ fp_ other4 C => WTs.cast (m' := pure (!decide (other4 = index))) (wts_one (wt_ne eqs_int (we_var C 5) (we_var C 2))) rfl) (fun s_ H_ Cc_ cl_ fp_ other4 C => WE.cast (m' := pure other4) (we_var C 5) (by first | rfl | simp only [bind_as, pure_b])) (fun others => ws_fz 4 (fz_lst _) hW rfl (
ws_ret0 (WE.cast (m' := if (!others.isEmpty) = true then (idx others 0) >>= fun t7 => pure (some t7) else pure none) (we_if (wt_lst (WE.rd (we_var C 4))) (WE.some (we_ixL (WE.rd (we_var C 4)) we_int) nn_int) we_nonO) (by first | rfl | simp only [bind_as, pure_b])) (fun _ => rfl)))
def b_row_from (edges : List (List Int)) (meeting : List (List (Int × (List Int)))) (index : Int) (side : Int) : Out (List Int) :=
(pure [index]) >>= fun row =>
(pure side) >>= fun leaving =>
(m_other_edge edges meeting index leaving) >>= fun following =>
(whileO (fun (s1 : Int × (Option Int) × (List Int)) => if s1.2.1.isSome = true then pure (!decide (s1.2.1 = some index)) else pure false) (fun (s1 : Int × (Option Int) × (List Int)) =>
(unO s1.2.1) >>= fun a2 => appO s1.2.2 a2 >>= fun row =>
(pure (1 - s1.1)) >>= fun leaving =>
((unO s1.2.1) >>= fun t3 => m_other_edge edges meeting t3 leaving) >>= fun following =>
pure (leaving, following, row)) FUEL (leaving, following, row)) >>= fun s4 =>
pure s4.2.2
theorem x_row_from : ∃ g : (List (List Int)) → (List (List (Int × (List Int)))) → Int → Int → Out (List Int), g = b_row_from := ⟨_, rfl⟩
def m_row_from : (List (List Int)) → (List (List (Int × (List Int)))) → Int → Int → Out (List Int) := Classical.choose x_row_from
theorem m_row_from_eq : m_row_from = b_row_from := Classical.choose_spec x_row_from
abbrev P_row_from : Par ((List (List Int)) × (List (List (Int × (List Int)))) × Int × Int × Unit) := (pC (tTup (tTup tInt)) (pC (tTup (tDic (tLst tInt))) (pC tInt (pC tInt pN))))
abbrev u_row_from (i : (List (List Int)) × (List (List (Int × (List Int)))) × Int × Int × Unit) : Out (List Int) := m_row_from i.1 i.2.1 i.2.2.1 i.2.2.2.1
theorem sc_row_from : FnScope ["edges", "meeting", "index", "side", "row", "leaving", "following"] ["edges", "meeting", "index", "side"] (defScope s_row_from) := ⟨rfl, rfl, rfl, by decide +kernel, rfl, by decide +kernel, by decide +kernel⟩
abbrev sp_row_from (K : PySem.W.Frag) : Sp := Sps P_row_from u_row_from (tTup tInt) K
theorem ok_row_from {fd : FuncData} (Z : Fre mg) (F : FunD K "row_from" "row_from" (defArgs s_row_from) (defBody s_row_from) (defScope s_row_from) [] [] (He.fAd K ("row_from", none)) fd) (g : mg "row_from" = some (.ref (He.fAd K ("row_from", none)))) (G_other_edge : Def Pr w K mg base 1 "other_edge" ["edges", "meeting", "index", "side"] [] (sp_other_edge K))  : Def Pr w K mg base 2 "row_from" ["edges", "meeting", "index", "side"] [] (sp_row_from K) := by
  refine ⟨_, fd, [], fn_body F sc_row_from rfl (by decide) (fun X E B i e1 e2 e3 e4 e5 hW C => ?_), g, F.kp, F.bindsN (fun _ _ _ _ _ _ us hl => match us, hl with | [_, _, _, _], _ => rfl), .nil⟩
  subst e1 e2 e3 e4 e5
  obtain ⟨edges, meeting, index, side, _⟩ := i
  show WS X E B [iS (tTup (tTup tInt)) edges, iS (tTup (tDic (tLst tInt))) meeting, iS tInt index, iS tInt side, .any, .any, .any] [_] (m_row_from edges meeting index side) _
  rw [m_row_from_eq]
  unfold b_row_from
  exact ws_setO C 4 (WO.cast (m' := pure [index]) (wo_lst (wal_cons (we_var C 2) wal_nil)) (by first | rfl | simp only [bind_as, pure_b])) (fun row =>
ws_set C 5 (WE.cast (m' := pure side) (we_var C 3) (by first | rfl | simp only [bind_as, pure_b])) (fun leaving =>
ws_set C 6 (WE.cast (m' := m_other_edge edges meeting index leaving) (we_call C G_other_edge (by decide) (wa_cons (R := (tTup (tTup tInt)).rl) (we_var C 0) fun a0 => wa_cons (R := (tTup (tDic (tLst tInt))).rl) (we_var C 1) fun a1 => wa_cons (R := tInt.rl) (we_var C 2) fun a2 => wa_cons (R := tInt.rl) (we_var C 5) fun a3 => wa_nil fun K F H s v3 r3 v2 r2 v1 r1 v0 r0 => ⟨(a0, a1, a2, a3, ()), rfl, v0, _, rfl, r0, v1, _, rfl, r1, v2, _, rfl, r2, v3, _, rfl, r3, rfl⟩)) (by first | (simp only [pure_b, bind_as]; done) | rfl)) (fun following =>
ws_seq (Δ := (fun (s1 : Int × (Option Int) × (List Int)) => [iS (tTup (tTup tInt)) edges, iS (tTup (tDic (tLst tInt))) meeting, iS tInt index, iS tInt side, .on _ (oLst tInt) s1.2.2, iS tInt s1.1, iS (tOpt tInt) s1.2.1])) (w1_while C (Δ := (fun (s1 : Int × (Option Int) × (List Int)) => [iS (tTup (tTup tInt)) edges, iS (tTup (tDic (tLst tInt))) meeting, iS tInt index, iS tInt side, .on _ (oLst tInt) s1.2.2, iS tInt s1.1, iS (tOpt tInt) s1.2.1])) (s0 := (leaving, following, row)) FUEL (Weak.same (Weak.same (Weak.same (Weak.same (Weak.same (Weak.same (Weak.same Weak.nil))))))) (fun s1 => WT.cast (m' := if s1.2.1.isSome = true then pure (!decide (s1.2.1 = some index)) else pure false) (wt_b (wb_and (wt_notN (we_var C 6)) (wb_and1 (wt_ne eqs_optI (we_var C 6) (WE.some (we_var C 2) nn_int))))) (by first | rfl | simp only [bind_as, pure_b])) (fun s1 =>
ws_app C 4 (WE.cast (m' := unO s1.2.1) (we_un (we_var C 6)) (by first | rfl | simp only [bind_as, pure_b])) (fun row =>
ws_set C 5 (WE.cast (m' := pure (1 - s1.1)) (we_sub we_int (we_var C 5)) (by first | rfl | simp only [bind_as, pure_b])) (fun leaving =>
ws_set C 6 (WE.cast (m' := (unO s1.2.1) >>= fun t3 => m_other_edge edges meeting t3 leaving) (we_call C G_other_edge (by decide) (wa_cons (R := (tTup (tTup tInt)).rl) (we_var C 0) fun a0 => wa_cons (R := (tTup (tDic (tLst tInt))).rl) (we_var C 1) fun a1 => wa_cons (R := tInt.rl) (we_un (we_var C 6)) fun a2 => wa_cons (R := tInt.rl) (we_var C 5) fun a3 => wa_nil fun K F H s v3 r3 v2 r2 v1 r1 v0 r0 => ⟨(a0, a1, a2, a3, ()), rfl, v0, _, rfl, r0, v1, _, rfl, r1, v2, _, rfl, r2, v3, _, rfl, r3, rfl⟩)) (by first | (simp only [pure_b, bind_as]; done) | rfl)) (fun following =>
ws_fin rfl (Weak.same (Weak.same (Weak.same (Weak.same (Weak.same (Weak.same (Weak.same Weak.nil)))))))))))) (fun s4 =>
ws_ret0 (WE.cast (m' := pure s4.2.2) (we_tuple C Z (WE.hr (we_ovar C 4))) (by first | rfl | simp only [bind_as, pure_b])) (fun _ => rfl)))))
def b_open_rows (edges : List (List Int)) (meeting : List (List (Int × (List Int)))) : Out (List (List Int)) :=
(pure ([] : List (List Int))) >>= fun rows =>
(pure ([] : List Int)) >>= fun seen =>
((pure (upto edges.length)) >>= fun xs15 => forO (fun (s1 : (List (List Int)) × (List Int)) (x2 : Int) =>
((pure (upto 2)) >>= fun xs5 => mapO (fun side3 => (m_other_edge edges meeting x2 side3) >>= fun t4 => pure t4.isNone) xs5) >>= fun free =>
(if (!decide (x2 ∈ s1.2)) = true then pure (free.any id) else pure false) >>= fun c6 => if c6 = true then (
(((idx free 0) >>= fun t7 => if t7 = true then pure 1 else pure 0) >>= fun t8 => m_row_from edges meeting x2 t8) >>= fun row =>
(pure row) >>= fun a9 => appO s1.1 a9 >>= fun rows =>
((pure row) >>= fun xs13 => forO (fun (s10 : (List Int)) (x11 : Int) =>
(pure x11) >>= fun a12 => addO s10 a12 >>= fun seen =>
pure seen) xs13 s1.2) >>= fun s14 =>
pure (rows, s14))
else (
pure (s1.1, s1.2))) xs15 (rows, seen)) >>= fun s16 =>
pure s16.1
theorem x_open_rows : ∃ g : (List (List Int)) → (List (List (Int × (List Int)))) → Out (List (List Int)), g = b_open_rows := ⟨_, rfl⟩
def m_open_rows : (List (List Int)) → (List (List (Int × (List Int)))) → Out (List (List Int)) := Classical.choose x_open_rows
theorem m_open_rows_eq : m_open_rows = b_open_rows := Classical.choose_spec x_open_rows
abbrev P_open_rows : Par ((List (List Int)) × (List (List (Int × (List Int)))) × Unit) := (pC (tTup (tTup tInt)) (pC (tTup (tDic (tLst tInt))) pN))
abbrev u_open_rows (i : (List (List Int)) × (List (List (Int × (List Int)))) × Unit) : Out (List (List Int)) := m_open_rows i.1 i.2.1
theorem sc_open_rows : FnScope ["edges", "meeting", "rows", "seen", "index", "free", "row", "edge", "side"] ["edges", "meeting"] (defScope s_open_rows) := ⟨rfl, rfl, rfl, by decide +kernel, rfl, by decide +kernel, by decide +kernel⟩
abbrev sp_open_rows (K : PySem.W.Frag) : Sp := SpsO P_open_rows u_open_rows (oLst (tTup tInt)) K
theorem ok_open_rows {fd : FuncData} (Z : Fre mg) (F : FunD K "open_rows" "open_rows" (defArgs s_open_rows) (defBody s_open_rows) (defScope s_open_rows) [] [] (He.fAd K ("open_rows", none)) fd) (g : mg "open_rows" = some (.ref (He.fAd K ("open_rows", none)))) (G_other_edge : Def Pr w K mg base 1 "other_edge" ["edges", "meeting", "index", "side"] [] (sp_other_edge K)) (G_row_from : Def Pr w K mg base 2 "row_from" ["edges", "meeting", "index", "side"] [] (sp_row_from K))  : Def Pr w K mg base 3 "open_rows" ["edges", "meeting"] [] (sp_open_rows K) := by
  refine ⟨_, fd, [], fn_bodyO F sc_open_rows rfl (by decide) (fun X E B i e1 e2 e3 e4 e5 hW C => ?_), g, F.kp, F.bindsN (fun _ _ _ _ _ _ us hl => match us, hl with | [_, _], _ => rfl), .nil⟩
  subst e1 e2 e3 e4 e5
  obtain ⟨edges, meeting, _⟩ := i
  show WS X E B [iS (tTup (tTup tInt)) edges, iS (tTup (tDic (tLst tInt))) meeting, .any, .any, .any, .any, .any, .any, .any] [_] (m_open_rows edges meeting) _
  rw [m_open_rows_eq]
  unfold b_open_rows
  exact ws_setO C 2 (WO.cast (m' := pure ([] : List (List Int))) (wo_lst (wal_nil (T := (tTup tInt)))) (by first | rfl | simp only [bind_as, pure_b])) (fun rows =>
ws_setO C 3 (WO.cast (m' := pure ([] : List Int)) (wo_set0 C Z) (by first | rfl | simp only [bind_as, pure_b])) (fun seen =>
ws_seq (Δ := (fun (s1 : (List (List Int)) × (List Int)) => [iS (tTup (tTup tInt)) edges, iS (tTup (tDic (tLst tInt))) meeting, .on _ (oLst (tTup tInt)) s1.1, .on _ (oSet X.w) s1.2, .any, .any, .any, .any, .any])) (w1_for C (WI.cast (m' := pure (upto edges.length)) (wi_rlen C Z tt_len (we_var C 0)) (by first | rfl | simp only [bind_as, pure_b])) (wg_name C 4) (Δ := (fun (s1 : (List (List Int)) × (List Int)) => [iS (tTup (tTup tInt)) edges, iS (tTup (tDic (tLst tInt))) meeting, .on _ (oLst (tTup tInt)) s1.1, .on _ (oSet X.w) s1.2, .any, .any, .any, .any, .any])) (s0 := (rows, seen)) (Weak.same (Weak.same (Weak.same (Weak.same (Weak.same (Weak.same (Weak.same (Weak.same (Weak.same Weak.nil))))))))) (fun s1 x2 =>
ws_lc (f := _) C 5 [("side", 8)] (by decide +kernel) (WI.cast (m' := pure (upto 2)) (WI.cast (wi_range C Z we_int) rfl) (by first | rfl | simp only [bind_as, pure_b])) (ix := [8]) (by decide) (fun s_ H_ Cc_ cl_ fp_ C => (wg_name C 8)) (fun s_ H_ Cc_ cl_ fp_ side3 C => WE.cast (m' := (m_other_edge edges meeting x2 side3) >>= fun t4 => pure t4.isNone) (we_isN (we_call C G_other_edge (by decide) (wa_cons (R := (tTup (tTup tInt)).rl) (we_var C 0) fun a0 => wa_cons (R := (tTup (tDic (tLst tInt))).rl) (we_var C 1) fun a1 => wa_cons (R := tInt.rl) (we_var C 4) fun a2 => wa_cons (R := tInt.rl) (we_var C 8) fun a3 => wa_nil fun K F H s v3 r3 v2 r2 v1 r1 v0 r0 => ⟨(a0, a1, a2, a3, ()), rfl, v0, _, rfl, r0, v1, _, rfl, r1, v2, _, rfl, r2, v3, _, rfl, r3, rfl⟩))) (by first | (simp only [pure_b, bind_as]; done) | rfl)) (fun free => ws_fz 5 (fz_lst _) hW rfl (
ws_if (WT.cast (m' := if (!decide (x2 ∈ s1.2)) = true then pure (free.any id) else pure false) (wt_b (wb_and (wt_niS (we_var C 4) (we_sovar C 3)) (wb_and1 (wt_val (we_any C Z (WE.rd (we_var C 5))))))) (by first | rfl | simp only [bind_as, pure_b])) (
ws_set C 6 (WE.cast (m' := ((idx free 0) >>= fun t7 => if t7 = true then pure 1 else pure 0) >>= fun t8 => m_row_from edges meeting x2 t8) (we_call C G_row_from (by decide) (wa_cons (R := (tTup (tTup tInt)).rl) (we_var C 0) fun a0 => wa_cons (R := (tTup (tDic (tLst tInt))).rl) (we_var C 1) fun a1 => wa_cons (R := tInt.rl) (we_var C 4) fun a2 => wa_cons (R := tInt.rl) (we_if (wt_val (we_ixL (WE.rd (we_var C 5)) we_int)) we_int we_int) fun a3 => wa_nil fun K F H s v3 r3 v2 r2 v1 r1 v0 r0 => ⟨(a0, a1, a2, a3, ()), rfl, v0, _, rfl, r0, v1, _, rfl, r1, v2, _, rfl, r2, v3, _, rfl, r3, rfl⟩)) (by first | (simp only [pure_b, bind_as]; done) | rfl)) (fun row =>
ws_app C 2 (WE.cast (m' := pure row) (we_var C 6) (by first | rfl | simp only [bind_as, pure_b])) (fun rows =>
ws_seq (Δ := (fun (s10 : (List Int)) => [iS (tTup (tTup tInt)) edges, iS (tTup (tDic (tLst tInt))) meeting, .on _ (oLst (tTup tInt)) rows, .on _ (oSet X.w) s10, iS tInt x2, iS (tLst tBool) free, iS (tTup tInt) row, .any, .any])) (w1_for C (WI.cast (m' := pure row) (wi_tup (we_var C 6)) (by first | rfl | simp only [bind_as, pure_b])) (wg_name C 7) (Δ := (fun (s10 : (List Int)) => [iS (tTup (tTup tInt)) edges, iS (tTup (tDic (tLst tInt))) meeting, .on _ (oLst (tTup tInt)) rows, .on _ (oSet X.w) s10, iS tInt x2, iS (tLst tBool) free, iS (tTup tInt) row, .any, .any])) (s0 := s1.2) (Weak.same (Weak.same (Weak.same (Weak.same (Weak.same (Weak.same (Weak.same (Weak.same (Weak.same Weak.nil))))))))) (fun s10 x11 =>
ws_add C 3 (WE.cast (m' := pure x11) (we_var C 7) (by first | rfl | simp only [bind_as, pure_b])) (fun seen =>
ws_fin rfl (Weak.same (Weak.same (Weak.same (Weak.same (Weak.same (Weak.same (Weak.same (Weak.any (Weak.same Weak.nil)))))))))))) (fun s14 =>
ws_pop (ws_fin rfl (Weak.same (Weak.same (Weak.same (Weak.same (Weak.any (Weak.any (Weak.any (Weak.same (Weak.same Weak.nil)))))))))))))) (
ws_pop (ws_fin rfl (Weak.same (Weak.same (Weak.same (Weak.same (Weak.any (Weak.any (Weak.same (Weak.same (Weak.same Weak.nil))))))))))))))) (fun s16 =>
ws_retV C 2 hW rfl)))
def b_closed_rows (edges : List (List Int)) (meeting : List (List (Int × (List Int)))) (used : List Int) : Out (List (List Int)) :=
(pure ([] : List (List Int))) >>= fun rows =>
(setOfO used) >>= fun seen =>
((pure (upto edges.length)) >>= fun xs10 => forO (fun (s1 : (List (List Int)) × (List Int)) (x2 : Int) =>
(pure (!decide (x2 ∈ s1.2))) >>= fun c3 => if c3 = true then (
(m_row_from edges meeting x2 1) >>= fun row =>
(pure row) >>= fun a4 => appO s1.1 a4 >>= fun rows =>
((pure row) >>= fun xs8 => forO (fun (s5 : (List Int)) (x6 : Int) =>
(pure x6) >>= fun a7 => addO s5 a7 >>= fun seen =>
pure seen) xs8 s1.2) >>= fun s9 =>
pure (rows, s9))
else (
pure (s1.1, s1.2))) xs10 (rows, seen)) >>= fun s11 =>
pure s11.1
theorem x_closed_rows : ∃ g : (List (List Int)) → (List (List (Int × (List Int)))) → (List Int) → Out (List (List Int)), g = b_closed_rows := ⟨_, rfl⟩
def m_closed_rows : (List (List Int)) → (List (List (Int × (List Int)))) → (List Int) → Out (List (List Int)) := Classical.choose x_closed_rows
theorem m_closed_rows_eq : m_closed_rows = b_closed_rows := Classical.choose_spec x_closed_rows
abbrev P_closed_rows : Par ((List (List Int)) × (List (List (Int × (List Int)))) × (List Int) × Unit) := (pC (tTup (tTup tInt)) (pC (tTup (tDic (tLst tInt))) (pC (tLst tInt) pN)))
abbrev u_closed_rows (i : (List (List Int)) × (List (List (Int × (List Int)))) × (List Int) × Unit) : Out (List (List Int)) := m_closed_rows i.1 i.2.1 i.2.2.1
theorem sc_closed_rows : FnScope ["edges", "meeting", "used", "rows", "seen", "index", "row", "edge"] ["edges", "meeting", "used"] (defScope s_closed_rows) := ⟨rfl, rfl, rfl, by decide +kernel, rfl, by decide +kernel, by decide +kernel⟩
abbrev sp_closed_rows (K : PySem.W.Frag) : Sp := SpsO P_closed_rows u_closed_rows (oLst (tTup tInt)) K
theorem ok_closed_rows {fd : FuncData} (Z : Fre mg) (F : FunD K "closed_rows" "closed_rows" (defArgs s_closed_rows) (defBody s_closed_rows) (defScope s_closed_rows) [] [] (He.fAd K ("closed_rows", none)) fd) (g : mg "closed_rows" = some (.ref (He.fAd K ("closed_rows", none)))) (G_row_from : Def Pr w K mg base 2 "row_from" ["edges", "meeting", "index", "side"] [] (sp_row_from K))  : Def Pr w K mg base 3 "closed_rows" ["edges", "meeting", "used"] [] (sp_closed_rows K) := by
  refine ⟨_, fd, [], fn_bodyO F sc_closed_rows rfl (by decide) (fun X E B i e1 e2 e3 e4 e5 hW C => ?_), g, F.kp, F.bindsN (fun _ _ _ _ _ _ us hl => match us, hl with | [_, _, _], _ => rfl), .nil⟩
  subst e1 e2 e3 e4 e5
  obtain ⟨edges, meeting, used, _⟩ := i
  show WS X E B [iS (tTup (tTup tInt)) edges, iS (tTup (tDic (tLst tInt))) meeting, iS (tLst tInt) used, .any, .any, .any, .any, .any] [_] (m_closed_rows edges meeting used) _
  rw [m_closed_rows_eq]
  unfold b_closed_rows
  exact ws_setO C 3 (WO.cast (m' := pure ([] : List (List Int))) (wo_lst (wal_nil (T := (tTup tInt)))) (by first | rfl | simp only [bind_as, pure_b])) (fun rows =>
ws_setO C 4 (WO.cast (m' := setOfO used) (wo_setL C Z (WE.rd (we_var C 2))) (by first | rfl | simp only [bind_as, pure_b])) (fun seen =>
ws_seq (Δ := (fun (s1 : (List (List Int)) × (List Int)) => [iS (tTup (tTup tInt)) edges, iS (tTup (tDic (tLst tInt))) meeting, iS (tLst tInt) used, .on _ (oLst (tTup tInt)) s1.1, .on _ (oSet X.w) s1.2, .any, .any, .any])) (w1_for C (WI.cast (m' := pure (upto edges.length)) (wi_rlen C Z tt_len (we_var C 0)) (by first | rfl | simp only [bind_as, pure_b])) (wg_name C 5) (Δ := (fun (s1 : (List (List Int)) × (List Int)) => [iS (tTup (tTup tInt)) edges, iS (tTup (tDic (tLst tInt))) meeting, iS (tLst tInt) used, .on _ (oLst (tTup tInt)) s1.1, .on _ (oSet X.w) s1.2, .any, .any, .any])) (s0 := (rows, seen)) (Weak.same (Weak.same (Weak.same (Weak.same (Weak.same (Weak.same (Weak.same (Weak.same Weak.nil)))))))) (fun s1 x2 =>
ws_if (WT.cast (m' := pure (!decide (x2 ∈ s1.2))) (wt_niS (we_var C 5) (we_sovar C 4)) (by first | rfl | simp only [bind_as, pure_b])) (
ws_set C 6 (WE.cast (m' := m_row_from edges meeting x2 1) (we_call C G_row_from (by decide) (wa_cons (R := (tTup (tTup tInt)).rl) (we_var C 0) fun a0 => wa_cons (R := (tTup (tDic (tLst tInt))).rl) (we_var C 1) fun a1 => wa_cons (R := tInt.rl) (we_var C 5) fun a2 => wa_cons (R := tInt.rl) we_int fun a3 => wa_nil fun K F H s v3 r3 v2 r2 v1 r1 v0 r0 => ⟨(a0, a1, a2, a3, ()), rfl, v0, _, rfl, r0, v1, _, rfl, r1, v2, _, rfl, r2, v3, _, rfl, r3, rfl⟩)) (by first | (simp only [pure_b, bind_as]; done) | rfl)) (fun row =>
ws_app C 3 (WE.cast (m' := pure row) (we_var C 6) (by first | rfl | simp only [bind_as, pure_b])) (fun rows =>
ws_seq (Δ := (fun (s5 : (List Int)) => [iS (tTup (tTup tInt)) edges, iS (tTup (tDic (tLst tInt))) meeting, iS (tLst tInt) used, .on _ (oLst (tTup tInt)) rows, .on _ (oSet X.w) s5, iS tInt x2, iS (tTup tInt) row, .any])) (w1_for C (WI.cast (m' := pure row) (wi_tup (we_var C 6)) (by first | rfl | simp only [bind_as, pure_b])) (wg_name C 7) (Δ := (fun (s5 : (List Int)) => [iS (tTup (tTup tInt)) edges, iS (tTup (tDic (tLst tInt))) meeting, iS (tLst tInt) used, .on _ (oLst (tTup tInt)) rows, .on _ (oSet X.w) s5, iS tInt x2, iS (tTup tInt) row, .any])) (s0 := s1.2) (Weak.same (Weak.same (Weak.same (Weak.same (Weak.same (Weak.same (Weak.same (Weak.same Weak.nil)))))))) (fun s5 x6 =>
ws_add C 4 (WE.cast (m' := pure x6) (we_var C 7) (by first | rfl | simp only [bind_as, pure_b])) (fun seen =>
ws_fin rfl (Weak.same (Weak.same (Weak.same (Weak.same (Weak.same (Weak.same (Weak.same (Weak.any Weak.nil))))))))))) (fun s9 =>
ws_pop (ws_fin rfl (Weak.same (Weak.same (Weak.same (Weak.same (Weak.same (Weak.any (Weak.any (Weak.same Weak.nil))))))))))))) (
ws_pop (ws_fin rfl (Weak.same (Weak.same (Weak.same (Weak.same (Weak.same (Weak.any (Weak.same (Weak.same Weak.nil)))))))))))) (fun s11 =>
ws_retV C 3 hW rfl)))
theorem x_frozen : ∃ g : PyData → Out PyData, g = fun value => pure (frzD value) := ⟨_, rfl⟩
def m_frozen : PyData → Out PyData := Classical.choose x_frozen
theorem m_frozen_eq : m_frozen = fun value => pure (frzD value) := Classical.choose_spec x_frozen
theorem sc_frozen : FnScope ["value", "item"] ["value"] (defScope s_frozen) := ⟨rfl, rfl, rfl, by decide +kernel, rfl, by decide +kernel, by decide +kernel⟩
abbrev sp_frozenN (n : Nat) (K : PySem.W.Frag) : Sp := Sps (pC (tDn n) pN) (fun i => m_frozen i.1) tD K
abbrev sp_frozen (K : PySem.W.Frag) : Sp := sp_frozenN 8 K
theorem frozen_step {n : Nat} {fd : FuncData} (Z : Fre mg) (F : FunD K "frozen" "frozen" (defArgs s_frozen) (defBody s_frozen) (defScope s_frozen) [] [] (He.fAd K ("frozen", none)) fd) (g : mg "frozen" = some (.ref (He.fAd K ("frozen", none))))
    (G : ∀ m, n = m + 1 → Def Pr w K mg base n "frozen" ["value"] [] (sp_frozenN m K)) : Def Pr w K mg base (n + 1) "frozen" ["value"] [] (sp_frozenN n K) := by
  refine ⟨_, fd, [], fn_body F sc_frozen rfl (Nat.le_of_ble_eq_true rfl) (fun X E B i e1 e2 e3 e4 e5 hW C => ?_), g, F.kp, F.bindsN (fun _ _ _ _ _ _ us hl => match us, hl with | [_], _ => rfl), .nil⟩
  subst e1 e2 e3 e4 e5
  obtain ⟨value, _⟩ := i
  show WS X E B [iS (tDn n) value, .any] [_] (m_frozen value) _
  rw [m_frozen_eq]
  have leaf : isL value = false → isT value = false → WS X E B [iS (tDn n) value, .any] [defBody s_frozen] (pure (frzD value)) (fun b => .rt PyData tD b) := fun h1 h2 => by
    have e : frzD value = value := by cases value <;> first | rfl | (simp [isL, isT] at h1 h2)
    rw [e]
    refine WS.cast (ws_if (m1 := Out.stuck) (WT.cast (m' := pure false) (wt_val (we_isi2 C Z (cn := "list") (dn := "tuple") isL isT ty_dn kit_L kit_T (we_var C 0) Z.list (by decide +kernel) Z.tuple (by decide +kernel))) (by show (pure (isL value || isT value) : Out Bool) = _; rw [h1, h2]; rfl)) ws_stuck (ws_pop (ws_ret0 (WE.dn (we_var C 0)) fun _ => rfl))) rfl
  cases value with
  | list xs =>
    refine ws_have 0 (T := tDn n) (a := .list xs) (fun K F v h => depth_list h.2) rfl fun ⟨m, hm⟩ => ?_
    subst hm
    refine ws_conv 0 (U := tLstQ (tDn m)) (b := xs) (fun K F v h => by obtain ⟨m', e, r⟩ := dn_list h; cases e; exact r) rfl ?_
    refine WS.cast (ws_if (m2 := Out.stuck) (WT.cast (m' := pure true) (wt_val (we_isi2 C Z (cn := "list") (dn := "tuple") (fun _ => true) (fun _ => false) ty_lstq (fun _ => by decide +kernel) (fun _ => by decide +kernel) (we_var C 0) Z.list (by decide +kernel) Z.tuple (by decide +kernel))) rfl) (ws_ret0 (WE.map (S := tD.rl) (we_tuple C Z (WO.rd (wo_lc C (ix := [1]) [("item", 1)] (by decide +kernel) (WI.cast (m' := pure xs) (wi_lstQ (we_var C 0)) rfl) (by decide) (fun s_ H_ Cc_ cl_ fp_ C => wg_name C 1) (fun s_ H_ Cc_ cl_ fp_ x C => WE.cast (m' := m_frozen x) (we_call C (G m rfl) (Nat.le_refl _) (wa_cons (R := (tDn m).rl) (we_var C 1) fun a0 => wa_nil fun K F H s v0 r0 => ⟨(a0, ()), rfl, v0, _, rfl, r0, rfl⟩)) rfl)))) PyData.tuple (fun K F H v a _ h => tupD h)) fun _ => rfl) ws_stuck) ?_
    show ((mapO m_frozen xs >>= fun a => pure a) >>= fun a => pure (PyData.tuple a)) = pure (frzD (.list xs))
    rw [m_frozen_eq, mapO_pure]
    show (pure (PyData.tuple (xs.map frzD)) : Out PyData) = _
    rw [← frzDs_map, frzD]
  | tuple xs =>
    refine ws_have 0 (T := tDn n) (a := .tuple xs) (fun K F v h => depth_tuple h.2) rfl fun ⟨m, hm⟩ => ?_
    subst hm
    refine ws_conv 0 (U := tTup (tDn m)) (b := xs) (fun K F v h => by obtain ⟨m', e, r⟩ := dn_tuple h; cases e; exact r) rfl ?_
    refine WS.cast (ws_if (m2 := Out.stuck) (WT.cast (m' := pure true) (wt_val (we_isi2 C Z (cn := "list") (dn := "tuple") (fun _ => false) (fun _ => true) ty_tup (fun _ => by decide +kernel) (fun _ => by decide +kernel) (we_var C 0) Z.list (by decide +kernel) Z.tuple (by decide +kernel))) rfl) (ws_ret0 (WE.map (S := tD.rl) (we_tuple C Z (WO.rd (wo_lc C (ix := [1]) [("item", 1)] (by decide +kernel) (WI.cast (m' := pure xs) (wi_tup (we_var C 0)) rfl) (by decide) (fun s_ H_ Cc_ cl_ fp_ C => wg_name C 1) (fun s_ H_ Cc_ cl_ fp_ x C => WE.cast (m' := m_frozen x) (we_call C (G m rfl) (Nat.le_refl _) (wa_cons (R := (tDn m).rl) (we_var C 1) fun a0 => wa_nil fun K F H s v0 r0 => ⟨(a0, ()), rfl, v0, _, rfl, r0, rfl⟩)) rfl)))) PyData.tuple (fun K F H v a _ h => tupD h)) fun _ => rfl) ws_stuck) ?_
    show ((mapO m_frozen xs >>= fun a => pure a) >>= fun a => pure (PyData.tuple a)) = pure (frzD (.tuple xs))
    rw [m_frozen_eq, mapO_pure]
    show (pure (PyData.tuple (xs.map frzD)) : Out PyData) = _
    rw [← frzDs_map, frzD]
  | none => exact leaf rfl rfl
  | bool _ => exact leaf rfl rfl
  | int _ => exact leaf rfl rfl
  | str _ => exact leaf rfl rfl
  | dict _ => exact leaf rfl rfl
theorem ok_frozenN {fd : FuncData} (Z : Fre mg) (F : FunD K "frozen" "frozen" (defArgs s_frozen) (defBody s_frozen) (defScope s_frozen) [] [] (He.fAd K ("frozen", none)) fd) (g : mg "frozen" = some (.ref (He.fAd K ("frozen", none)))) : ∀ n, Def Pr w K mg base (n + 1) "frozen" ["value"] [] (sp_frozenN n K)
  | 0 => frozen_step Z F g fun m h => nomatch h
  | n + 1 => frozen_step Z F g fun m h => by cases h; exact ok_frozenN Z F g n
theorem ok_frozen {fd : FuncData} (Z : Fre mg) (F : FunD K "frozen" "frozen" (defArgs s_frozen) (defBody s_frozen) (defScope s_frozen) [] [] (He.fAd K ("frozen", none)) fd) (g : mg "frozen" = some (.ref (He.fAd K ("frozen", none)))) : Def Pr w K mg base 9 "frozen" ["value"] [] (sp_frozen K) := ok_frozenN Z F g 8

def b_hue_rows (edges : PyData) (hues : PyData) : Out (List (List Int)) :=
(((dnO 8 edges) >>= fun t1 => m_frozen t1) >>= fun t2 => (asTup (asTup asInt)) t2) >>= fun told =>
(m_meeting_edges told) >>= fun meeting =>
(m_open_rows told meeting) >>= fun rows =>
((pure rows) >>= fun xs5 => comp2O (fun p3 => pure p3) (fun p3 q4 => ifO (pure true) (pure q4)) xs5 >>= limO) >>= fun used =>
((m_closed_rows told meeting used) >>= fun t6 => catO rows t6) >>= fun t7 => pure t7
theorem x_hue_rows : ∃ g : PyData → PyData → Out (List (List Int)), g = b_hue_rows := ⟨_, rfl⟩
def m_hue_rows : PyData → PyData → Out (List (List Int)) := Classical.choose x_hue_rows
theorem m_hue_rows_eq : m_hue_rows = b_hue_rows := Classical.choose_spec x_hue_rows
abbrev P_hue_rows : Par (PyData × PyData × Unit) := (pC tD (pC tD pN))
abbrev u_hue_rows (i : PyData × PyData × Unit) : Out (List (List Int)) := m_hue_rows i.1 i.2.1
theorem sc_hue_rows : FnScope ["edges", "hues", "told", "meeting", "rows", "used", "row", "edge"] ["edges", "hues"] (defScope s_hue_rows) := ⟨rfl, rfl, rfl, by decide +kernel, rfl, by decide +kernel, by decide +kernel⟩
abbrev sp_hue_rows (K : PySem.W.Frag) : Sp := Sps P_hue_rows u_hue_rows (tTup (tTup tInt)) K
theorem ok_hue_rows {fd : FuncData} (Z : Fre mg) (F : FunD K "hue_rows" "hue_rows" (defArgs s_hue_rows) (defBody s_hue_rows) (defScope s_hue_rows) [] [] (He.fAd K ("hue_rows", none)) fd) (g : mg "hue_rows" = some (.ref (He.fAd K ("hue_rows", none)))) (G_frozen : Def Pr w K mg base 9 "frozen" ["value"] [] (sp_frozen K)) (G_meeting_edges : Def Pr w K mg base 1 "meeting_edges" ["edges"] [] (sp_meeting_edges K)) (G_open_rows : Def Pr w K mg base 3 "open_rows" ["edges", "meeting"] [] (sp_open_rows K)) (G_closed_rows : Def Pr w K mg base 3 "closed_rows" ["edges", "meeting", "used"] [] (sp_closed_rows K))  : Def Pr w K mg base 10 "hue_rows" ["edges", "hues"] [] (sp_hue_rows K) := by
  refine ⟨_, fd, [], fn_body F sc_hue_rows rfl (by decide) (fun X E B i e1 e2 e3 e4 e5 hW C => ?_), g, F.kp, F.bindsN (fun _ _ _ _ _ _ us hl => match us, hl with | [_, _], _ => rfl), .nil⟩
  subst e1 e2 e3 e4 e5
  obtain ⟨edges, hues, _⟩ := i
  show WS X E B [iS tD edges, iS tD hues, .any, .any, .any, .any, .any, .any] [_] (m_hue_rows edges hues) _
  rw [m_hue_rows_eq]
  unfold b_hue_rows
  exact ws_set C 2 (WE.cast (m' := ((dnO 8 edges) >>= fun t1 => m_frozen t1) >>= fun t2 => (asTup (asTup asInt)) t2) (we_as (as_tup (as_tup as_int)) (we_call C G_frozen (by decide) (wa_cons (R := (tDn 8).rl) (we_dn (we_var C 0)) fun a0 => wa_nil fun K F H s v0 r0 => ⟨(a0, ()), rfl, v0, _, rfl, r0, rfl⟩))) (by first | (simp only [pure_b, bind_as]; done) | rfl)) (fun told =>
ws_set C 3 (WE.cast (m' := m_meeting_edges told) (we_call C G_meeting_edges (by decide) (wa_cons (R := (tTup (tTup tInt)).rl) (we_var C 2) fun a0 => wa_nil fun K F H s v0 r0 => ⟨(a0, ()), rfl, v0, _, rfl, r0, rfl⟩)) (by first | (simp only [pure_b, bind_as]; done) | rfl)) (fun meeting =>
ws_set C 4 (WE.cast (m' := m_open_rows told meeting) (WO.fz (wo_call C G_open_rows (by decide) (wa_cons (R := (tTup (tTup tInt)).rl) (we_var C 2) fun a0 => wa_cons (R := (tTup (tDic (tLst tInt))).rl) (we_var C 3) fun a1 => wa_nil fun K F H s v1 r1 v0 r0 => ⟨(a0, a1, ()), rfl, v0, _, rfl, r0, v1, _, rfl, r1, rfl⟩)) (fz_lst _)) (by first | (simp only [pure_b, bind_as]; done) | rfl)) (fun rows =>
ws_lc2 (f := _) C 5 (ix := [6]) (ix1 := [7]) [("row", 6), ("edge", 7)] [7] (by decide +kernel) (by decide) (WI.cast (m' := pure rows) (wi_lst (we_var C 4)) (by first | rfl | simp only [bind_as, pure_b])) (by decide) (fun s_ H_ Cc_ cl_ fp_  C => (wg_name C 6)) (fun s_ H_ Cc_ cl_ fp_ p3 C => WI.cast (m' := pure p3) (wi_tup (we_var C 6)) rfl) (fun s_ H_ Cc_ cl_ fp_  C => (wg_name C 7)) (by decide) (fun s_ H_ Cc_ cl_ fp_ p3 q4 C => WTs.cast (m' := pure true) wts_nil rfl) (fun s_ H_ Cc_ cl_ fp_ p3 q4 C => WE.cast (m' := pure q4) (we_var C 7) rfl) (fun used => ws_fz 5 (fz_lst _) hW rfl (
ws_ret0 (WE.cast (m' := ((m_closed_rows told meeting used) >>= fun t6 => catO rows t6) >>= fun t7 => pure t7) (we_tuple C Z (WO.rd (wo_cat (WE.rh (we_var C 4)) (WO.rh (wo_call C G_closed_rows (by decide) (wa_cons (R := (tTup (tTup tInt)).rl) (we_var C 2) fun a0 => wa_cons (R := (tTup (tDic (tLst tInt))).rl) (we_var C 3) fun a1 => wa_cons (R := (tLst tInt).rl) (we_var C 5) fun a2 => wa_nil fun K F H s v2 r2 v1 r1 v0 r0 => ⟨(a0, a1, a2, ()), rfl, v0, _, rfl, r0, v1, _, rfl, r1, v2, _, rfl, r2, rfl⟩)))))) (by first | (simp only [pure_b, bind_as]; done) | rfl)) (fun _ => rfl))))))
def b_law_asked (edges : List (Int × Int)) (hues : List Int) (due : List (List Int)) : Out Bool :=
((pure edges) >>= fun xs2 => mapO (fun edge1 => pure [edge1.1, edge1.2]) xs2) >>= fun given =>
(pure hues) >>= fun told =>
(m_hue_rows ((cLst (cLst cInt)).d given) ((cLst cInt).d told)) >>= fun actual =>
(m_law_same actual due) >>= fun t7 => if t7 = true then ((mapO (fun edge3 => pure [edge3.1, edge3.2]) edges) >>= fun t5 => pure (decide (given = t5))) >>= fun t6 => if t6 = true then pure (decide (told = hues)) else pure false else pure false
theorem x_law_asked : ∃ g : (List (Int × Int)) → (List Int) → (List (List Int)) → Out Bool, g = b_law_asked := ⟨_, rfl⟩
def m_law_asked : (List (Int × Int)) → (List Int) → (List (List Int)) → Out Bool := Classical.choose x_law_asked
theorem m_law_asked_eq : m_law_asked = b_law_asked := Classical.choose_spec x_law_asked
abbrev P_law_asked : Par ((List (Int × Int)) × (List Int) × (List (List Int)) × Unit) := (pC (tLst (tT2 tInt tInt)) (pC (tLst tInt) (pC (tTup (tTup tInt)) pN)))
abbrev u_law_asked (i : (List (Int × Int)) × (List Int) × (List (List Int)) × Unit) : Out Bool := m_law_asked i.1 i.2.1 i.2.2.1
theorem sc_law_asked : FnScope ["edges", "hues", "due", "given", "told", "actual", "edge"] ["edges", "hues", "due"] (defScope s_law_asked) := ⟨rfl, rfl, rfl, by decide +kernel, rfl, by decide +kernel, by decide +kernel⟩
abbrev sp_law_asked (K : PySem.W.Frag) : Sp := Sps P_law_asked u_law_asked tBool K
theorem ok_law_asked {fd : FuncData} (Z : Fre mg) (F : FunD K "_law_asked" "_law_asked" (defArgs s_law_asked) (defBody s_law_asked) (defScope s_law_asked) [] [] (He.fAd K ("_law_asked", none)) fd) (g : mg "_law_asked" = some (.ref (He.fAd K ("_law_asked", none)))) (G_hue_rows : Def Pr w K mg base 10 "hue_rows" ["edges", "hues"] [] (sp_hue_rows K)) (G_law_same : Def Pr w K mg base 2 "_law_same" ["actual", "due"] [] (sp_law_same K))  : Def Pr w K mg base 11 "_law_asked" ["edges", "hues", "due"] [] (sp_law_asked K) := by
  refine ⟨_, fd, [], fn_body F sc_law_asked rfl (by decide) (fun X E B i e1 e2 e3 e4 e5 hW C => ?_), g, F.kp, F.bindsN (fun _ _ _ _ _ _ us hl => match us, hl with | [_, _, _], _ => rfl), .nil⟩
  subst e1 e2 e3 e4 e5
  obtain ⟨edges, hues, due, _⟩ := i
  show WS X E B [iS (tLst (tT2 tInt tInt)) edges, iS (tLst tInt) hues, iS (tTup (tTup tInt)) due, .any, .any, .any, .any] [_] (m_law_asked edges hues due) _
  rw [m_law_asked_eq]
  unfold b_law_asked
  exact ws_lc (f := _) C 3 [("edge", 6)] (by decide +kernel) (WI.cast (m' := pure edges) (wi_lst (we_var C 0)) (by first | rfl | simp only [bind_as, pure_b])) (ix := [6]) (by decide) (fun s_ H_ Cc_ cl_ fp_ C => (wg_name C 6)) (fun s_ H_ Cc_ cl_ fp_ edge1 C => WE.cast (m' := pure [edge1.1, edge1.2]) (WO.fz (wo_listT C Z (WE.map (we_var C 6) (fun (a : Int × Int) => [a.1, a.2]) t2_tup)) (fz_lst _)) (by first | rfl | simp only [bind_as, pure_b])) (fun given => ws_fz 3 (fz_lst _) hW rfl (
ws_set C 4 (WE.cast (m' := pure hues) (WO.fz (wo_list C Z (WE.rd (we_var C 1))) (fz_lst _)) (by first | rfl | simp only [bind_as, pure_b])) (fun told =>
ws_set C 5 (WE.cast (m' := m_hue_rows ((cLst (cLst cInt)).d given) ((cLst cInt).d told)) (we_call C G_hue_rows (by decide) (wa_cons (R := tD.rl) (WE.map (R := (tLst (tLst tInt)).rl) (S := tD.rl) (we_var C 3) (cLst (cLst cInt)).d (fun K F H v a _ h => (dp_lst (dp_lst dp_int)) K F v a h)) fun a0 => wa_cons (R := tD.rl) (WE.map (R := (tLst tInt).rl) (S := tD.rl) (we_var C 4) (cLst cInt).d (fun K F H v a _ h => (dp_lst dp_int) K F v a h)) fun a1 => wa_nil fun K F H s v1 r1 v0 r0 => ⟨(a0, a1, ()), rfl, v0, _, rfl, r0, v1, _, rfl, r1, rfl⟩)) (by first | (simp only [pure_b, bind_as]; done) | rfl)) (fun actual =>
ws_ret0 (WE.cast (m' := (m_law_same actual due) >>= fun t7 => if t7 = true then ((mapO (fun edge3 => pure [edge3.1, edge3.2]) edges) >>= fun t5 => pure (decide (given = t5))) >>= fun t6 => if t6 = true then pure (decide (told = hues)) else pure false else pure false) (we_and (we_call C G_law_same (by decide) (wa_cons (R := (tTup (tTup tInt)).rl) (we_var C 5) fun a0 => wa_cons (R := (tTup (tTup tInt)).rl) (we_var C 2) fun a1 => wa_nil fun K F H s v1 r1 v0 r0 => ⟨(a0, a1, ()), rfl, v0, _, rfl, r0, v1, _, rfl, r1, rfl⟩)) (we_and (we_eqD C (cLst (cLst cInt)) (dp_lst (dp_lst dp_int)).r (dp_rl (dp_lst dp_int)) (we_var C 3) (WO.rd (wo_lc C [("edge", 6)] (by decide +kernel) (WI.cast (m' := pure edges) (wi_lst (we_var C 0)) (by first | rfl | simp only [bind_as, pure_b])) (ix := [6]) (by decide) (fun s_ H_ Cc_ cl_ fp_ C => (wg_name C 6)) (fun s_ H_ Cc_ cl_ fp_ edge3 C => WE.cast (m' := pure [edge3.1, edge3.2]) (WO.fz (wo_listT C Z (WE.map (we_var C 6) (fun (a : Int × Int) => [a.1, a.2]) t2_tup)) (fz_lst _)) (by first | rfl | simp only [bind_as, pure_b]))))) (we_bo1 (we_eqD C (cLst cInt) (dp_lst dp_int).r (dp_rl dp_int) (we_var C 4) (WO.rd (wo_list C Z (WE.rd (we_var C 1)))))))) (by first | (simp only [pure_b, bind_as]; done) | rfl)) (fun _ => rfl)))))
def b_law (script : List Int) : Out Bool :=
((m_law_cell script 0) >>= fun t1 => m_law_digits t1 [10, 16, 16, 100000, 1000, 1000, 6, 3, 512, 100000]) >>= fun row =>
(m_law_built script row) >>= fun rows =>
(((idx row 3) >>= fun t2 => pure (1 + t2)) >>= fun t3 => m_law_mixed rows row t3 0) >>= fun mixed =>
(m_law_due rows mixed.2.2 0) >>= fun due =>
((m_law_asked mixed.1 mixed.2.1 due) >>= fun t4 => pure (!t4)) >>= fun c5 => if c5 = true then (
pure false)
else (
((m_law_asked ([] : List (Int × Int)) ([] : List Int) ([] : List (List Int))) >>= fun t6 => pure (!t6)) >>= fun c7 => if c7 = true then (
pure false)
else (
(((idx row 3) >>= fun t8 => pure (1 + t8)) >>= fun t9 => (idx row 8) >>= fun t10 => m_law_mixed rows row t9 t10) >>= fun turned =>
((m_law_asked mixed.1 turned.2.1 due) >>= fun t11 => pure (!t11)) >>= fun c12 => if c12 = true then (
pure false)
else (
((pure mixed.1) >>= fun xs14 => mapO (fun edge13 => pure (edge13.2, edge13.1)) xs14) >>= fun exchanged =>
(((m_law_due rows mixed.2.2 1) >>= fun t15 => m_law_asked exchanged mixed.2.1 t15) >>= fun t16 => pure (!t16)) >>= fun c17 => if c17 = true then (
pure false)
else (
(pure (cut rows none (some (max 0 ((rows.length : Int) - 1))))) >>= fun less =>
(((idx row 9) >>= fun t18 => pure (1 + t18)) >>= fun t20 => ((idx row 8) >>= fun t19 => pure (511 - t19)) >>= fun t21 => m_law_mixed less row t20 t21) >>= fun other =>
(((m_law_due less other.2.2 0) >>= fun t22 => m_law_asked other.1 other.2.1 t22) >>= fun t23 => pure (!t23)) >>= fun c24 => if c24 = true then (
pure false)
else (
(m_hue_rows ((cTup (cT2 cInt cInt)).d mixed.1) ((cTup cInt).d mixed.2.1)) >>= fun t25 => m_law_same t25 due)))))
theorem x_law : ∃ g : (List Int) → Out Bool, g = b_law := ⟨_, rfl⟩
def m_law : (List Int) → Out Bool := Classical.choose x_law
theorem m_law_eq : m_law = b_law := Classical.choose_spec x_law
abbrev P_law : Par ((List Int) × Unit) := (pC (tLstQ tInt) pN)
abbrev u_law (i : (List Int) × Unit) : Out Bool := m_law i.1
theorem sc_law : FnScope ["script", "row", "rows", "mixed", "due", "turned", "exchanged", "less", "other", "edge"] ["script"] (defScope s_law) := ⟨rfl, rfl, rfl, by decide +kernel, rfl, by decide +kernel, by decide +kernel⟩
abbrev sp_law (K : PySem.W.Frag) : Sp := Sps P_law u_law tBool K
theorem ok_law {fd : FuncData} (Z : Fre mg) (F : FunD K "law" "law" (defArgs s_law) (defBody s_law) (defScope s_law) [] [] (He.fAd K ("law", none)) fd) (G_law_cell : Def Pr w K mg base 1 "_law_cell" ["script", "k"] [] (sp_law_cell K)) (G_law_digits : Def Pr w K mg base 1 "_law_digits" ["cell", "sizes"] [] (sp_law_digits K)) (G_law_built : Def Pr w K mg base 3 "_law_built" ["script", "row"] [] (sp_law_built K)) (G_law_mixed : Def Pr w K mg base 2 "_law_mixed" ["rows", "row", "factor", "mask"] [] (sp_law_mixed K)) (G_law_due : Def Pr w K mg base 1 "_law_due" ["rows", "places", "exchanged"] [] (sp_law_due K)) (G_law_asked : Def Pr w K mg base 11 "_law_asked" ["edges", "hues", "due"] [] (sp_law_asked K)) (G_hue_rows : Def Pr w K mg base 10 "hue_rows" ["edges", "hues"] [] (sp_hue_rows K)) (G_law_same : Def Pr w K mg base 2 "_law_same" ["actual", "due"] [] (sp_law_same K))  : FnOk Pr w K mg base (L2.CX Pr w) 12 (He.fAd K ("law", none)) fd ["script"] (sp_law K) := by
  refine fn_body F sc_law rfl (by decide) (fun X E B i e1 e2 e3 e4 e5 hW C => ?_)
  subst e1 e2 e3 e4 e5
  obtain ⟨script, _⟩ := i
  show WS X E B [iS (tLstQ tInt) script, .any, .any, .any, .any, .any, .any, .any, .any, .any] [_] (m_law script) _
  rw [m_law_eq]
  unfold b_law
  exact ws_set C 1 (WE.cast (m' := (m_law_cell script 0) >>= fun t1 => m_law_digits t1 [10, 16, 16, 100000, 1000, 1000, 6, 3, 512, 100000]) (WO.fz (wo_call C G_law_digits (by decide) (wa_cons (R := tInt.rl) (we_call C G_law_cell (by decide) (wa_cons (R := (tLstQ tInt).rl) (we_var C 0) fun a0 => wa_cons (R := tInt.rl) we_int fun a1 => wa_nil fun K F H s v1 r1 v0 r0 => ⟨(a0, a1, ()), rfl, v0, _, rfl, r0, v1, _, rfl, r1, rfl⟩)) fun a0 => wa_cons (R := (tLst tInt).rl) (WO.fz (wo_lst (wal_cons we_int (wal_cons we_int (wal_cons we_int (wal_cons we_int (wal_cons we_int (wal_cons we_int (wal_cons we_int (wal_cons we_int (wal_cons we_int (wal_cons we_int wal_nil))))))))))) (fz_lst _)) fun a1 => wa_nil fun K F H s v1 r1 v0 r0 => ⟨(a0, a1, ()), rfl, v0, _, rfl, r0, v1, _, rfl, r1, rfl⟩)) (fz_lst _)) (by first | (simp only [pure_b, bind_as]; done) | rfl)) (fun row =>
ws_set C 2 (WE.cast (m' := m_law_built script row) (WO.fz (wo_call C G_law_built (by decide) (wa_cons (R := (tLstQ tInt).rl) (we_var C 0) fun a0 => wa_cons (R := (tLst tInt).rl) (we_var C 1) fun a1 => wa_nil fun K F H s v1 r1 v0 r0 => ⟨(a0, a1, ()), rfl, v0, _, rfl, r0, v1, _, rfl, r1, rfl⟩)) (fz_lst _)) (by first | (simp only [pure_b, bind_as]; done) | rfl)) (fun rows =>
ws_set C 3 (WE.cast (m' := ((idx row 3) >>= fun t2 => pure (1 + t2)) >>= fun t3 => m_law_mixed rows row t3 0) (we_call C G_law_mixed (by decide) (wa_cons (R := (tLst (tL3 tBool (tLst (tT2 tInt tInt)) tInt)).rl) (we_var C 2) fun a0 => wa_cons (R := (tLst tInt).rl) (we_var C 1) fun a1 => wa_cons (R := tInt.rl) (we_add we_int (we_ixL (WE.rd (we_var C 1)) we_int)) fun a2 => wa_cons (R := tInt.rl) we_int fun a3 => wa_nil fun K F H s v3 r3 v2 r2 v1 r1 v0 r0 => ⟨(a0, a1, a2, a3, ()), rfl, v0, _, rfl, r0, v1, _, rfl, r1, v2, _, rfl, r2, v3, _, rfl, r3, rfl⟩)) (by first | (simp only [pure_b, bind_as]; done) | rfl)) (fun mixed =>
ws_set C 4 (WE.cast (m' := m_law_due rows mixed.2.2 0) (we_call C G_law_due (by decide) (wa_cons (R := (tLst (tL3 tBool (tLst (tT2 tInt tInt)) tInt)).rl) (we_var C 2) fun a0 => wa_cons (R := (tLst tInt).rl) (we_prj pl32 (we_var C 3)) fun a1 => wa_cons (R := tInt.rl) we_int fun a2 => wa_nil fun K F H s v2 r2 v1 r1 v0 r0 => ⟨(a0, a1, a2, ()), rfl, v0, _, rfl, r0, v1, _, rfl, r1, v2, _, rfl, r2, rfl⟩)) (by first | (simp only [pure_b, bind_as]; done) | rfl)) (fun due =>
ws_if (WT.cast (m' := (m_law_asked mixed.1 mixed.2.1 due) >>= fun t4 => pure (!t4)) (wt_not (wt_val (we_call C G_law_asked (by decide) (wa_cons (R := (tLst (tT2 tInt tInt)).rl) (we_prj pl30 (we_var C 3)) fun a0 => wa_cons (R := (tLst tInt).rl) (we_prj pl31 (we_var C 3)) fun a1 => wa_cons (R := (tTup (tTup tInt)).rl) (we_var C 4) fun a2 => wa_nil fun K F H s v2 r2 v1 r1 v0 r0 => ⟨(a0, a1, a2, ()), rfl, v0, _, rfl, r0, v1, _, rfl, r1, v2, _, rfl, r2, rfl⟩)))) (by first | (simp only [pure_b, bind_as]; done) | rfl)) (
ws_ret0 (WE.cast (m' := pure false) we_bl (by first | rfl | simp only [bind_as, pure_b])) (fun _ => rfl)) (
ws_pop (ws_if (WT.cast (m' := (m_law_asked ([] : List (Int × Int)) ([] : List Int) ([] : List (List Int))) >>= fun t6 => pure (!t6)) (wt_not (wt_val (we_call C G_law_asked (by decide) (wa_cons (R := (tLst (tT2 tInt tInt)).rl) (WO.fz (wo_lst (wal_nil (T := (tT2 tInt tInt)))) (fz_lst _)) fun a0 => wa_cons (R := (tLst tInt).rl) (WO.fz (wo_lst (wal_nil (T := tInt))) (fz_lst _)) fun a1 => wa_cons (R := (tTup (tTup tInt)).rl) (we_tupl (wal_nil (T := (tTup tInt)))) fun a2 => wa_nil fun K F H s v2 r2 v1 r1 v0 r0 => ⟨(a0, a1, a2, ()), rfl, v0, _, rfl, r0, v1, _, rfl, r1, v2, _, rfl, r2, rfl⟩)))) (by first | (simp only [pure_b, bind_as]; done) | rfl)) (
ws_ret0 (WE.cast (m' := pure false) we_bl (by first | rfl | simp only [bind_as, pure_b])) (fun _ => rfl)) (
ws_pop (ws_set C 5 (WE.cast (m' := ((idx row 3) >>= fun t8 => pure (1 + t8)) >>= fun t9 => (idx row 8) >>= fun t10 => m_law_mixed rows row t9 t10) (we_call C G_law_mixed (by decide) (wa_cons (R := (tLst (tL3 tBool (tLst (tT2 tInt tInt)) tInt)).rl) (we_var C 2) fun a0 => wa_cons (R := (tLst tInt).rl) (we_var C 1) fun a1 => wa_cons (R := tInt.rl) (we_add we_int (we_ixL (WE.rd (we_var C 1)) we_int)) fun a2 => wa_cons (R := tInt.rl) (we_ixL (WE.rd (we_var C 1)) we_int) fun a3 => wa_nil fun K F H s v3 r3 v2 r2 v1 r1 v0 r0 => ⟨(a0, a1, a2, a3, ()), rfl, v0, _, rfl, r0, v1, _, rfl, r1, v2, _, rfl, r2, v3, _, rfl, r3, rfl⟩)) (by first | (simp only [pure_b, bind_as]; done) | rfl)) (fun turned =>
ws_if (WT.cast (m' := (m_law_asked mixed.1 turned.2.1 due) >>= fun t11 => pure (!t11)) (wt_not (wt_val (we_call C G_law_asked (by decide) (wa_cons (R := (tLst (tT2 tInt tInt)).rl) (we_prj pl30 (we_var C 3)) fun a0 => wa_cons (R := (tLst tInt).rl) (we_prj pl31 (we_var C 5)) fun a1 => wa_cons (R := (tTup (tTup tInt)).rl) (we_var C 4) fun a2 => wa_nil fun K F H s v2 r2 v1 r1 v0 r0 => ⟨(a0, a1, a2, ()), rfl, v0, _, rfl, r0, v1, _, rfl, r1, v2, _, rfl, r2, rfl⟩)))) (by first | (simp only [pure_b, bind_as]; done) | rfl)) (
ws_ret0 (WE.cast (m' := pure false) we_bl (by first | rfl | simp only [bind_as, pure_b])) (fun _ => rfl)) (
ws_pop (ws_lc (f := _) C 6 [("edge", 9)] (by decide +kernel) (WI.cast (m' := pure mixed.1) (wi_lst (we_prj pl30 (we_var C 3))) (by first | rfl | simp only [bind_as, pure_b])) (ix := [9]) (by decide) (fun s_ H_ Cc_ cl_ fp_ C => (wg_name C 9)) (fun s_ H_ Cc_ cl_ fp_ edge13 C => WE.cast (m' := pure (edge13.2, edge13.1)) (we_t2 (we_prj pj21 (we_var C 9)) (we_prj pj20 (we_var C 9))) (by first | rfl | simp only [bind_as, pure_b])) (fun exchanged => ws_fz 6 (fz_lst _) hW rfl (
ws_if (WT.cast (m' := ((m_law_due rows mixed.2.2 1) >>= fun t15 => m_law_asked exchanged mixed.2.1 t15) >>= fun t16 => pure (!t16)) (wt_not (wt_val (we_call C G_law_asked (by decide) (wa_cons (R := (tLst (tT2 tInt tInt)).rl) (we_var C 6) fun a0 => wa_cons (R := (tLst tInt).rl) (we_prj pl31 (we_var C 3)) fun a1 => wa_cons (R := (tTup (tTup tInt)).rl) (we_call C G_law_due (by decide) (wa_cons (R := (tLst (tL3 tBool (tLst (tT2 tInt tInt)) tInt)).rl) (we_var C 2) fun a0 => wa_cons (R := (tLst tInt).rl) (we_prj pl32 (we_var C 3)) fun a1 => wa_cons (R := tInt.rl) we_int fun a2 => wa_nil fun K F H s v2 r2 v1 r1 v0 r0 => ⟨(a0, a1, a2, ()), rfl, v0, _, rfl, r0, v1, _, rfl, r1, v2, _, rfl, r2, rfl⟩)) fun a2 => wa_nil fun K F H s v2 r2 v1 r1 v0 r0 => ⟨(a0, a1, a2, ()), rfl, v0, _, rfl, r0, v1, _, rfl, r1, v2, _, rfl, r2, rfl⟩)))) (by first | (simp only [pure_b, bind_as]; done) | rfl)) (
ws_ret0 (WE.cast (m' := pure false) we_bl (by first | rfl | simp only [bind_as, pure_b])) (fun _ => rfl)) (
ws_pop (ws_set C 7 (WE.cast (m' := pure (cut rows none (some (max 0 ((rows.length : Int) - 1))))) (WO.fz (wo_cut (WE.rd (we_var C 2)) wp_no (wp_is (we_max2 C Z we_int (we_sub (we_lenL C Z (WE.rd (we_var C 2))) we_int)))) (fz_lst _)) (by first | rfl | simp only [bind_as, pure_b])) (fun less =>
ws_set C 8 (WE.cast (m' := ((idx row 9) >>= fun t18 => pure (1 + t18)) >>= fun t20 => ((idx row 8) >>= fun t19 => pure (511 - t19)) >>= fun t21 => m_law_mixed less row t20 t21) (we_call C G_law_mixed (by decide) (wa_cons (R := (tLst (tL3 tBool (tLst (tT2 tInt tInt)) tInt)).rl) (we_var C 7) fun a0 => wa_cons (R := (tLst tInt).rl) (we_var C 1) fun a1 => wa_cons (R := tInt.rl) (we_add we_int (we_ixL (WE.rd (we_var C 1)) we_int)) fun a2 => wa_cons (R := tInt.rl) (we_sub we_int (we_ixL (WE.rd (we_var C 1)) we_int)) fun a3 => wa_nil fun K F H s v3 r3 v2 r2 v1 r1 v0 r0 => ⟨(a0, a1, a2, a3, ()), rfl, v0, _, rfl, r0, v1, _, rfl, r1, v2, _, rfl, r2, v3, _, rfl, r3, rfl⟩)) (by first | (simp only [pure_b, bind_as]; done) | rfl)) (fun other =>
ws_if (WT.cast (m' := ((m_law_due less other.2.2 0) >>= fun t22 => m_law_asked other.1 other.2.1 t22) >>= fun t23 => pure (!t23)) (wt_not (wt_val (we_call C G_law_asked (by decide) (wa_cons (R := (tLst (tT2 tInt tInt)).rl) (we_prj pl30 (we_var C 8)) fun a0 => wa_cons (R := (tLst tInt).rl) (we_prj pl31 (we_var C 8)) fun a1 => wa_cons (R := (tTup (tTup tInt)).rl) (we_call C G_law_due (by decide) (wa_cons (R := (tLst (tL3 tBool (tLst (tT2 tInt tInt)) tInt)).rl) (we_var C 7) fun a0 => wa_cons (R := (tLst tInt).rl) (we_prj pl32 (we_var C 8)) fun a1 => wa_cons (R := tInt.rl) we_int fun a2 => wa_nil fun K F H s v2 r2 v1 r1 v0 r0 => ⟨(a0, a1, a2, ()), rfl, v0, _, rfl, r0, v1, _, rfl, r1, v2, _, rfl, r2, rfl⟩)) fun a2 => wa_nil fun K F H s v2 r2 v1 r1 v0 r0 => ⟨(a0, a1, a2, ()), rfl, v0, _, rfl, r0, v1, _, rfl, r1, v2, _, rfl, r2, rfl⟩)))) (by first | (simp only [pure_b, bind_as]; done) | rfl)) (
ws_ret0 (WE.cast (m' := pure false) we_bl (by first | rfl | simp only [bind_as, pure_b])) (fun _ => rfl)) (
ws_pop (ws_ret0 (WE.cast (m' := (m_hue_rows ((cTup (cT2 cInt cInt)).d mixed.1) ((cTup cInt).d mixed.2.1)) >>= fun t25 => m_law_same t25 due) (we_call C G_law_same (by decide) (wa_cons (R := (tTup (tTup tInt)).rl) (we_call C G_hue_rows (by decide) (wa_cons (R := tD.rl) (WE.map (R := (tTup (tT2 tInt tInt)).rl) (S := tD.rl) (we_tuple C Z (WE.rd (we_prj pl30 (we_var C 3)))) (cTup (cT2 cInt cInt)).d (fun K F H v a _ h => (dp_tup (dp_t2 dp_int dp_int)) K F v a h)) fun a0 => wa_cons (R := tD.rl) (WE.map (R := (tTup tInt).rl) (S := tD.rl) (we_tuple C Z (WE.rd (we_prj pl31 (we_var C 3)))) (cTup cInt).d (fun K F H v a _ h => (dp_tup dp_int) K F v a h)) fun a1 => wa_nil fun K F H s v1 r1 v0 r0 => ⟨(a0, a1, ()), rfl, v0, _, rfl, r0, v1, _, rfl, r1, rfl⟩)) fun a0 => wa_cons (R := (tTup (tTup tInt)).rl) (we_var C 4) fun a1 => wa_nil fun K F H s v1 r1 v0 r0 => ⟨(a0, a1, ()), rfl, v0, _, rfl, r0, v1, _, rfl, r1, rfl⟩)) (by first | (simp only [pure_b, bind_as]; done) | rfl)) (fun _ => rfl))))))))))))))))))))
end
def d_law_cell : He.DefD := ⟨("_law_cell", none), "_law_cell", "_law_cell", defArgs s_law_cell, defBody s_law_cell, defScope s_law_cell, [], []⟩
def d_law_digits : He.DefD := ⟨("_law_digits", none), "_law_digits", "_law_digits", defArgs s_law_digits, defBody s_law_digits, defScope s_law_digits, [], []⟩
def d_law_number : He.DefD := ⟨("_law_number", none), "_law_number", "_law_number", defArgs s_law_number, defBody s_law_number, defScope s_law_number, [], []⟩
def d_law_end : He.DefD := ⟨("_law_end", none), "_law_end", "_law_end", defArgs s_law_end, defBody s_law_end, defScope s_law_end, [], []⟩
def d_law_row_edges : He.DefD := ⟨("_law_row_edges", none), "_law_row_edges", "_law_row_edges", defArgs s_law_row_edges, defBody s_law_row_edges, defScope s_law_row_edges, [], []⟩
def d_law_built : He.DefD := ⟨("_law_built", none), "_law_built", "_law_built", defArgs s_law_built, defBody s_law_built, defScope s_law_built, [], []⟩
def d_law_mixed : He.DefD := ⟨("_law_mixed", none), "_law_mixed", "_law_mixed", defArgs s_law_mixed, defBody s_law_mixed, defScope s_law_mixed, [], []⟩
def d_law_due : He.DefD := ⟨("_law_due", none), "_law_due", "_law_due", defArgs s_law_due, defBody s_law_due, defScope s_law_due, [], []⟩
def d_law_whole : He.DefD := ⟨("_law_whole", none), "_law_whole", "_law_whole", defArgs s_law_whole, defBody s_law_whole, defScope s_law_whole, [], []⟩
def d_law_same : He.DefD := ⟨("_law_same", none), "_law_same", "_law_same", defArgs s_law_same, defBody s_law_same, defScope s_law_same, [], []⟩
def d_meeting_edges : He.DefD := ⟨("meeting_edges", none), "meeting_edges", "meeting_edges", defArgs s_meeting_edges, defBody s_meeting_edges, defScope s_meeting_edges, [], []⟩
def d_other_edge : He.DefD := ⟨("other_edge", none), "other_edge", "other_edge", defArgs s_other_edge, defBody s_other_edge, defScope s_other_edge, [], []⟩
def d_row_from : He.DefD := ⟨("row_from", none), "row_from", "row_from", defArgs s_row_from, defBody s_row_from, defScope s_row_from, [], []⟩
def d_open_rows : He.DefD := ⟨("open_rows", none), "open_rows", "open_rows", defArgs s_open_rows, defBody s_open_rows, defScope s_open_rows, [], []⟩
def d_closed_rows : He.DefD := ⟨("closed_rows", none), "closed_rows", "closed_rows", defArgs s_closed_rows, defBody s_closed_rows, defScope s_closed_rows, [], []⟩
def d_frozen : He.DefD := ⟨("frozen", none), "frozen", "frozen", defArgs s_frozen, defBody s_frozen, defScope s_frozen, [], []⟩
def d_hue_rows : He.DefD := ⟨("hue_rows", none), "hue_rows", "hue_rows", defArgs s_hue_rows, defBody s_hue_rows, defScope s_hue_rows, [], []⟩
def d_law_asked : He.DefD := ⟨("_law_asked", none), "_law_asked", "_law_asked", defArgs s_law_asked, defBody s_law_asked, defScope s_law_asked, [], []⟩
def d_law : He.DefD := ⟨("law", none), "law", "law", defArgs s_law, defBody s_law, defScope s_law, [], []⟩
def fn : List He.DefD := [d_law_cell, d_law_digits, d_law_number, d_law_end, d_law_row_edges, d_law_built, d_law_mixed, d_law_due, d_law_whole, d_law_same, d_meeting_edges, d_other_edge, d_row_from, d_open_rows, d_closed_rows, d_frozen, d_hue_rows, d_law_asked, d_law]
def fa : List He.Fa := [.free "len", .free "range", .free "int", .free "isinstance", .free "list", .free "tuple", .free "enumerate", .free "max", .free "min", .free "sorted", .free "set", .free "any", .free "all", .free "sum", .free "zip", .free "abs", .free "bool", .free "str", .free "ValueError", .free "reversed", .glo "_law_cell", .glo "_law_digits", .glo "_law_number", .glo "_law_end", .glo "_law_row_edges", .glo "_law_built", .glo "_law_mixed", .glo "_law_due", .glo "_law_whole", .glo "_law_same", .glo "meeting_edges", .glo "other_edge", .glo "row_from", .glo "open_rows", .glo "closed_rows", .glo "frozen", .glo "hue_rows", .glo "_law_asked", .glo "law"]
abbrev RR : PySem.W.OpenRow := PySem.W.OpenLaw.row PySem.Challenge.rw_sloweralone_k20_hue_rows_whole
abbrev hk : PySem.W.Hook := He.hookD 4 fa fn
def ob (s : PySem.W.SharedT) : He.AlD := He.obsDG 4 fa fn (HandSHeadRun.getT s)
theorem ob_eq (s : PySem.W.SharedT) : ob s = hk.obs s.abs := He.obsDG_eq (HandSHeadRun.getT_eq s)
def loose : List Str := ["__name__", "frozen", "meeting_edges", "other_edge", "row_from", "open_rows", "closed_rows", "hue_rows", "_law_whole", "_law_cell", "_law_digits", "_law_number", "_law_end", "_law_row_edges", "_law_built", "_law_mixed", "_law_due", "_law_same", "_law_asked"]
set_option maxHeartbeats 0 in
theorem run (w : World) : HandSHeadRun.RunEq RR (PySem.W.view RR.prog [21]) hk ob 2000 loose w := by
  intro os
  kernel_rfl
theorem facts {P : Program} {w : World} {K : PySem.W.Frag} {h : Heap} {mg : Str → Option Value} {f : Addr} (X : K.In h) (G : h.Ns mainGlobals mg) (hfa : mg ("law" : Str) = some (.ref f)) (c : He.SaysD fa fn K) :
    ∃ fd : FuncData, (∀ (s : Shared) (v : Value), BindsTo s fd ⟨[v], []⟩ [("script", v)]) ∧ ∀ base : Heap, K.In base → base.Ns mainGlobals mg → FnOk P w K mg base (L2.CX P w) 12 f fd ["script"] (sp_law K) := by
  have Z : Fre mg := ⟨He.free_ok X G (c.fact 0), He.free_ok X G (c.fact 1), He.free_ok X G (c.fact 2), He.free_ok X G (c.fact 3), He.free_ok X G (c.fact 4), He.free_ok X G (c.fact 5), He.free_ok X G (c.fact 6), He.free_ok X G (c.fact 7), He.free_ok X G (c.fact 8), He.free_ok X G (c.fact 9), He.free_ok X G (c.fact 10), He.free_ok X G (c.fact 11), He.free_ok X G (c.fact 12), He.free_ok X G (c.fact 13), He.free_ok X G (c.fact 14), He.free_ok X G (c.fact 15), He.free_ok X G (c.fact 16), He.free_ok X G (c.fact 17), He.free_ok X G (c.fact 18), He.free_ok X G (c.fact 19)⟩
  have g_law_cell : mg ("_law_cell" : Str) = some (.ref (He.fAd K ("_law_cell", none))) := He.glo_ok X G (c.fact 20)
  obtain ⟨fd_law_cell, F_law_cell⟩ := c.def_ 0 (d := d_law_cell)
  have g_law_digits : mg ("_law_digits" : Str) = some (.ref (He.fAd K ("_law_digits", none))) := He.glo_ok X G (c.fact 21)
  obtain ⟨fd_law_digits, F_law_digits⟩ := c.def_ 1 (d := d_law_digits)
  have g_law_number : mg ("_law_number" : Str) = some (.ref (He.fAd K ("_law_number", none))) := He.glo_ok X G (c.fact 22)
  obtain ⟨fd_law_number, F_law_number⟩ := c.def_ 2 (d := d_law_number)
  have g_law_end : mg ("_law_end" : Str) = some (.ref (He.fAd K ("_law_end", none))) := He.glo_ok X G (c.fact 23)
  obtain ⟨fd_law_end, F_law_end⟩ := c.def_ 3 (d := d_law_end)
  have g_law_row_edges : mg ("_law_row_edges" : Str) = some (.ref (He.fAd K ("_law_row_edges", none))) := He.glo_ok X G (c.fact 24)
  obtain ⟨fd_law_row_edges, F_law_row_edges⟩ := c.def_ 4 (d := d_law_row_edges)
  have g_law_built : mg ("_law_built" : Str) = some (.ref (He.fAd K ("_law_built", none))) := He.glo_ok X G (c.fact 25)
  obtain ⟨fd_law_built, F_law_built⟩ := c.def_ 5 (d := d_law_built)
  have g_law_mixed : mg ("_law_mixed" : Str) = some (.ref (He.fAd K ("_law_mixed", none))) := He.glo_ok X G (c.fact 26)
  obtain ⟨fd_law_mixed, F_law_mixed⟩ := c.def_ 6 (d := d_law_mixed)
  have g_law_due : mg ("_law_due" : Str) = some (.ref (He.fAd K ("_law_due", none))) := He.glo_ok X G (c.fact 27)
  obtain ⟨fd_law_due, F_law_due⟩ := c.def_ 7 (d := d_law_due)
  have g_law_whole : mg ("_law_whole" : Str) = some (.ref (He.fAd K ("_law_whole", none))) := He.glo_ok X G (c.fact 28)
  obtain ⟨fd_law_whole, F_law_whole⟩ := c.def_ 8 (d := d_law_whole)
  have g_law_same : mg ("_law_same" : Str) = some (.ref (He.fAd K ("_law_same", none))) := He.glo_ok X G (c.fact 29)
  obtain ⟨fd_law_same, F_law_same⟩ := c.def_ 9 (d := d_law_same)
  have g_meeting_edges : mg ("meeting_edges" : Str) = some (.ref (He.fAd K ("meeting_edges", none))) := He.glo_ok X G (c.fact 30)
  obtain ⟨fd_meeting_edges, F_meeting_edges⟩ := c.def_ 10 (d := d_meeting_edges)
  have g_other_edge : mg ("other_edge" : Str) = some (.ref (He.fAd K ("other_edge", none))) := He.glo_ok X G (c.fact 31)
  obtain ⟨fd_other_edge, F_other_edge⟩ := c.def_ 11 (d := d_other_edge)
  have g_row_from : mg ("row_from" : Str) = some (.ref (He.fAd K ("row_from", none))) := He.glo_ok X G (c.fact 32)
  obtain ⟨fd_row_from, F_row_from⟩ := c.def_ 12 (d := d_row_from)
  have g_open_rows : mg ("open_rows" : Str) = some (.ref (He.fAd K ("open_rows", none))) := He.glo_ok X G (c.fact 33)
  obtain ⟨fd_open_rows, F_open_rows⟩ := c.def_ 13 (d := d_open_rows)
  have g_closed_rows : mg ("closed_rows" : Str) = some (.ref (He.fAd K ("closed_rows", none))) := He.glo_ok X G (c.fact 34)
  obtain ⟨fd_closed_rows, F_closed_rows⟩ := c.def_ 14 (d := d_closed_rows)
  have g_frozen : mg ("frozen" : Str) = some (.ref (He.fAd K ("frozen", none))) := He.glo_ok X G (c.fact 35)
  obtain ⟨fd_frozen, F_frozen⟩ := c.def_ 15 (d := d_frozen)
  have g_hue_rows : mg ("hue_rows" : Str) = some (.ref (He.fAd K ("hue_rows", none))) := He.glo_ok X G (c.fact 36)
  obtain ⟨fd_hue_rows, F_hue_rows⟩ := c.def_ 16 (d := d_hue_rows)
  have g_law_asked : mg ("_law_asked" : Str) = some (.ref (He.fAd K ("_law_asked", none))) := He.glo_ok X G (c.fact 37)
  obtain ⟨fd_law_asked, F_law_asked⟩ := c.def_ 17 (d := d_law_asked)
  have g_law : mg ("law" : Str) = some (.ref (He.fAd K ("law", none))) := He.glo_ok X G (c.fact 38)
  obtain ⟨fd_law, F_law⟩ := c.def_ 18 (d := d_law)
  have e : f = He.fAd K ("law", none) := by
    rw [g_law] at hfa
    exact (Value.ref.inj (Option.some.inj hfa)).symm
  subst e
  refine ⟨fd_law, fun s v => F_law.bindsA (ps := ["script"]) (fun _ _ _ _ _ _ us hl => match us, hl with | [_], _ => rfl) s [v] rfl, fun base hb hn => ?_⟩
  have o_law_cell := ok_law_cell (Pr := P) (w := w) (base := base) Z F_law_cell g_law_cell 
  have o_law_digits := ok_law_digits (Pr := P) (w := w) (base := base) Z F_law_digits g_law_digits 
  have o_law_number := ok_law_number (Pr := P) (w := w) (base := base) Z F_law_number g_law_number 
  have o_law_end := ok_law_end (Pr := P) (w := w) (base := base) Z F_law_end g_law_end 
  have o_law_row_edges := ok_law_row_edges (Pr := P) (w := w) (base := base) Z F_law_row_edges g_law_row_edges o_law_end
  have o_law_built := ok_law_built (Pr := P) (w := w) (base := base) Z F_law_built g_law_built o_law_cell o_law_digits o_law_row_edges
  have o_law_mixed := ok_law_mixed (Pr := P) (w := w) (base := base) Z F_law_mixed g_law_mixed o_law_number
  have o_law_due := ok_law_due (Pr := P) (w := w) (base := base) Z F_law_due g_law_due 
  have o_law_whole := ok_law_whole (Pr := P) (w := w) (base := base) Z F_law_whole g_law_whole 
  have o_law_same := ok_law_same (Pr := P) (w := w) (base := base) Z F_law_same g_law_same o_law_whole
  have o_meeting_edges := ok_meeting_edges (Pr := P) (w := w) (base := base) Z F_meeting_edges g_meeting_edges 
  have o_other_edge := ok_other_edge (Pr := P) (w := w) (base := base) Z F_other_edge g_other_edge 
  have o_row_from := ok_row_from (Pr := P) (w := w) (base := base) Z F_row_from g_row_from o_other_edge
  have o_open_rows := ok_open_rows (Pr := P) (w := w) (base := base) Z F_open_rows g_open_rows o_other_edge o_row_from
  have o_closed_rows := ok_closed_rows (Pr := P) (w := w) (base := base) Z F_closed_rows g_closed_rows o_row_from
  have o_frozen := ok_frozen (Pr := P) (w := w) (base := base) Z F_frozen g_frozen 
  have o_hue_rows := ok_hue_rows (Pr := P) (w := w) (base := base) Z F_hue_rows g_hue_rows o_frozen o_meeting_edges o_open_rows o_closed_rows
  have o_law_asked := ok_law_asked (Pr := P) (w := w) (base := base) Z F_law_asked g_law_asked o_hue_rows o_law_same
  exact ok_law Z F_law o_law_cell o_law_digits o_law_built o_law_mixed o_law_due o_law_asked o_hue_rows o_law_same
end My

namespace My
open PySem PySem.Spec PyProof.Rows L2 SL SM
/-! the law's own random draws: m_law_cell, m_law_digits -/
theorem cell_ok (ns : List Int) (k : Int) (h0 : 0 ≤ k) (h1 : k < 1000000) : ∃ c, m_law_cell ns k = pure c := by
  rw [m_law_cell_eq]
  unfold b_law_cell
  rw [pbind]
  by_cases c : k < (ns.length : Int)
  · rw [if_pos (decide_eq_true c)]
    obtain ⟨a, e, _⟩ := idx_lt h0 c
    exact ⟨a, e⟩
  · rw [if_neg (by rw [decide_eq_false c]; exact Bool.false_ne_true), pbind, pbind]
    have h := forO_foldl (f := fun (s2 : Int) (x3 : Int) => (pure (((s2 * 31) + (x3 % 1000003)) % 1000003) : Out Int) >>= fun seed => pure seed) (g := fun s x => ((s * 31) + (x % 1000003)) % 1000003) ns 17 (fun _ _ _ => rfl)
    rw [h, pbind, mulO_r (by omega) (by omega)]
    exact ⟨_, rfl⟩
theorem digits_ok (cell : Int) (sizes : List Int) (hs : ∀ s ∈ sizes, 0 < s ∧ s < 1073741824) (hl : sizes.length < 16777216) : ∃ L, m_law_digits cell sizes = pure L ∧ L.length = sizes.length ∧ ∀ (i : Nat) d s, L[i]? = some d → sizes[i]? = some s → 0 ≤ d ∧ d < s := by
  rw [m_law_digits_eq]
  unfold b_law_digits
  rw [pbind, pbind, pbind]
  have hif : ∀ (c : Bool) (a b : Int), (if c = true then ((pure a : Out Int) >>= fun r => pure r) else pure b) = pure (if c = true then a else b) := fun c a b => by cases c <;> rfl
  rw [hif, pbind, pbind, pbind]
  generalize (if decide (1000000000000000000 ≤ cell) = true then _ else (0 : Int)) = r
  have app : ∀ (L : List Int) (x : Int), L.length < 16777216 → appO L x = pure (L ++ [x]) := fun L x h => appO_ok h
  obtain ⟨s', e, h1, h2⟩ := forO_inv0 (f := fun (s3 : Int × Int × (List Int)) (x4 : Int) =>
    (pure ((((s3.1 * 48271) + (974711 * x4)) + 12345) % 2147483647)) >>= fun seed =>
    (((mulO seed ((seed / 65537) + 3)) >>= fun t5 => pure t5) >>= fun t6 => pure (t6 % 2147483629)) >>= fun twice =>
    (pure (decide (0 < s3.2.1))) >>= fun c7 => if c7 = true then (
    ((idx sizes x4) >>= fun t8 => modO s3.2.1 t8) >>= fun a9 => appO s3.2.2 a9 >>= fun row =>
    ((idx sizes x4) >>= fun t10 => divO s3.2.1 t10) >>= fun rest =>
    pure (seed, rest, row))
    else (
    ((idx sizes x4) >>= fun t11 => modO (twice / 19) t11) >>= fun a12 => appO s3.2.2 a12 >>= fun row =>
    pure (seed, s3.2.1, row)))
    (fun i s => s.2.2.length = i ∧ ∀ (j : Nat) d z, s.2.2[j]? = some d → sizes[j]? = some z → 0 ≤ d ∧ d < z) (upto sizes.length) (cell % 2147483629, r, []) ⟨rfl, fun j d z h => by simp at h⟩ (fun i s x hx ⟨hl1, hd⟩ => by
      obtain ⟨rfl, hi⟩ := upto_at hx
      have hz : sizes[i]? = some sizes[i] := List.getElem?_eq_getElem hi
      obtain ⟨z0, z1⟩ := hs sizes[i] (List.getElem_mem hi)
      have grow : ∀ v : Int, ∀ (j : Nat) d z, (s.2.2 ++ [v % sizes[i]])[j]? = some d → sizes[j]? = some z → 0 ≤ d ∧ d < z := fun v j d z h1 h2 => by
        by_cases c : j < s.2.2.length
        · rw [List.getElem?_append_left c] at h1
          exact hd j d z h1 h2
        · rw [List.getElem?_append_right (by omega)] at h1
          have ej : j = i := by
            have := (List.getElem?_eq_some_iff.mp h1).1
            simp at this
            omega
          subst ej
          rw [hl1, Nat.sub_self] at h1
          simp at h1
          rw [hz] at h2
          cases h2
          subst h1
          exact ⟨Int.emod_nonneg _ (by omega), Int.emod_lt_of_pos _ z0⟩
      rw [pbind]
      generalize hseed : ((((s.1 * 48271) + (974711 * (i : Int))) + 12345) % 2147483647) = seed
      have s0 : 0 ≤ seed := by rw [← hseed]; exact Int.emod_nonneg _ (by omega)
      have s1 : seed < 2147483647 := by rw [← hseed]; exact Int.emod_lt_of_pos _ (by omega)
      rw [mulO_r (by omega) (by omega), pbind, pbind, pbind, pbind]
      by_cases c : 0 < s.2.1
      · rw [if_pos (decide_eq_true c), idx_nat hz, pbind, modO_ok z0, pbind, app _ _ (by omega), pbind, pbind, divO_ok z0 z1, pbind]
        exact ⟨_, rfl, by simp [hl1], grow _⟩
      · rw [if_neg (by rw [decide_eq_false c]; exact Bool.false_ne_true), idx_nat hz, pbind, modO_ok z0, pbind, app _ _ (by omega), pbind]
        exact ⟨_, rfl, by simp [hl1], grow _⟩)
  refine ⟨s'.2.2, ?_, by rw [h1, upto_len], h2⟩
  rw [e, pbind]

/-! ### meeting_edges, other_edge -/
def ndT (T : List (List Int)) (p s : Int) : Int := ((T[p.toNat]?.getD [])[s.toNat]?).getD 0
def lk : List (Int × List Int) → Int → List Int
  | [], _ => []
  | (j, xs) :: r, v => if j = v then xs else lk r v
theorem lk_addTo (k n v : Int) : ∀ a : List (Int × List Int), lk (addTo a k n) v = if v = k then lk a k ++ [n] else lk a v
  | [] => by
    unfold addTo lk
    by_cases c : k = v
    · subst c; simp [lk]
    · rw [if_neg c, if_neg (Ne.symm c)]; rfl
  | (j, xs) :: r => by
    unfold addTo
    by_cases c : j = k
    · subst c
      rw [if_pos rfl]
      by_cases d : v = j
      · subst d; simp [lk]
      · simp [lk, d, Ne.symm d]
    · rw [if_neg c]
      have ih := lk_addTo k n v r
      by_cases d : j = v
      · subst d
        simp [lk, c]
      · simp only [lk, if_neg d, ih]
        by_cases e : v = k
        · subst e; simp [lk, c]
        · simp [e]
theorem addTo_len (k n : Int) : ∀ a : List (Int × List Int), (addTo a k n).length ≤ a.length + 1
  | [] => by simp [addTo]
  | (j, xs) :: r => by
    unfold addTo
    by_cases c : j = k
    · rw [if_pos c]; simp
    · rw [if_neg c]
      have := addTo_len k n r
      simp only [List.length_cons]
      omega
theorem addTo_lens (k n : Int) (b : Nat) : ∀ a : List (Int × List Int), (∀ p ∈ a, p.2.length ≤ b) → ∀ p ∈ addTo a k n, p.2.length ≤ b + 1
  | [], _, p, hp => by
    simp [addTo] at hp
    subst hp
    simp
  | (j, xs) :: r, h, p, hp => by
    unfold addTo at hp
    by_cases c : j = k
    · rw [if_pos c] at hp
      rcases List.mem_cons.mp hp with e | e
      · subst e
        have := h (j, xs) (by simp)
        simp at this ⊢
        omega
      · have := h p (by simp [e])
        omega
    · rw [if_neg c] at hp
      rcases List.mem_cons.mp hp with e | e
      · subst e
        have := h (j, xs) (by simp)
        simp at this ⊢
        omega
      · exact addTo_lens k n b r (fun q hq => h q (by simp [hq])) p e
theorem dgetO_lk {v : Int} : ∀ {a : List (Int × List Int)}, lk a v ≠ [] → dgetO a v = pure (lk a v)
  | [], h => absurd rfl h
  | (j, xs) :: r, h => by
    unfold dgetO lk
    by_cases c : j = v
    · rw [if_pos c, if_pos c]
    · rw [if_neg c, if_neg c]
      unfold lk at h
      rw [if_neg c] at h
      exact dgetO_lk h
theorem enumL_at {α : Type} {xs : List α} {i : Nat} {x : Int × α} (h : (enumL xs)[i]? = some x) : x.1 = (i : Int) ∧ xs[i]? = some x.2 := by
  have hi := (List.getElem?_eq_some_iff.mp h).1
  rw [enumL_len] at hi
  rw [enumL_get (List.getElem?_eq_getElem hi)] at h
  cases h
  exact ⟨rfl, List.getElem?_eq_getElem hi⟩
theorem two_upto : upto 2 = [0, 1] := rfl
theorem meetG_ok2 {d0 d1 : List (Int × List Int)} {b : Nat} (hb : b < 16777216) (h0 : d0.length ≤ b) (h1 : d1.length ≤ b) (l0 : ∀ p ∈ d0, p.2.length ≤ b) (l1 : ∀ p ∈ d1, p.2.length ≤ b) :
    meetG [d0, d1] 0 = pure 0 ∧ meetG [d0, d1] 1 = pure 1 := by
  have hg : ∀ a ∈ [d0, d1], a.length < 16777216 ∧ ∀ p ∈ a, p.2.length < 16777216 := fun a ha => by
    rcases List.mem_cons.mp ha with e | e
    · subst e
      exact ⟨by omega, fun p hp => by have := l0 p hp; omega⟩
    · rw [List.mem_singleton] at e
      subst e
      exact ⟨by omega, fun p hp => by have := l1 p hp; omega⟩
  have i0 : ixN [d0, d1].length 0 = some 0 := rfl
  have i1 : ixN [d0, d1].length 1 = some 1 := rfl
  constructor
  · unfold meetG
    rw [i0]
    exact if_pos hg
  · unfold meetG
    rw [i1]
    exact if_pos hg
/-- the edges are pairs -/
def Wf (T : List (List Int)) : Prop := (∀ e ∈ T, ∃ l r, e = [l, r]) ∧ T.length < 16000000
theorem ndT_at {T : List (List Int)} {p : Nat} {l r : Int} (h : T[p]? = some [l, r]) : ndT T (p : Int) 0 = l ∧ ndT T (p : Int) 1 = r := by
  unfold ndT
  rw [Int.toNat_natCast, h]
  exact ⟨rfl, rfl⟩
def posn (T : List (List Int)) (i : Nat) (s v : Int) : List Int := (upto i).filter fun q => decide (ndT T q s = v)
theorem posn_succ (T : List (List Int)) (i : Nat) (s v : Int) : posn T (i + 1) s v = if v = ndT T i s then posn T i s v ++ [(i : Int)] else posn T i s v := by
  unfold posn
  rw [upto_succ, List.filter_append]
  by_cases c : v = ndT T i s
  · rw [if_pos c]
    simp [c]
  · rw [if_neg c]
    simp [Ne.symm c]
theorem meeting_ok {T : List (List Int)} (hT : Wf T) : ∃ d0 d1, m_meeting_edges T = pure [d0, d1] ∧ (∀ v, lk d0 v = posn T T.length 0 v) ∧ ∀ v, lk d1 v = posn T T.length 1 v := by
  rw [m_meeting_edges_eq]
  unfold b_meeting_edges
  rw [pbind, pbind]
  obtain ⟨M, e, d0, d1, rfl, h0, h1, _⟩ := forO_inv0 (f := fun (s1 : (List (List (Int × List Int)))) (x2 : Int × (List Int)) =>
    ((pure (upto 2)) >>= fun xs9 => forO (fun (s3 : (List (List (Int × List Int)))) (x4 : Int) =>
    (pure x4) >>= fun a6 => meetG s3 a6 >>= fun j5 => (idx x2.2 x4) >>= fun a7 => (pure x2.1) >>= fun a8 => pure (meetS s3 j5 a7 a8) >>= fun meeting =>
    pure meeting) xs9 s1) >>= fun s10 =>
    pure s10)
    (fun i M => ∃ d0 d1, M = [d0, d1] ∧ (∀ v, lk d0 v = posn T i 0 v) ∧ (∀ v, lk d1 v = posn T i 1 v) ∧ d0.length ≤ i ∧ d1.length ≤ i ∧ (∀ p ∈ d0, p.2.length ≤ i) ∧ ∀ p ∈ d1, p.2.length ≤ i)
    (enumL T) [[], []] ⟨[], [], rfl, fun _ => rfl, fun _ => rfl, by simp, by simp, by simp, by simp⟩ (fun i M x hx ⟨d0, d1, hM, h0, h1, l0, l1, m0, m1⟩ => by
      subst hM
      obtain ⟨hx1, hx2⟩ := enumL_at hx
      obtain ⟨l, r, he⟩ := hT.1 x.2 (List.mem_of_getElem? hx2)
      rw [he] at hx2
      have hi : i < T.length := (List.getElem?_eq_some_iff.mp hx2).1
      obtain ⟨n0, n1⟩ := ndT_at hx2
      have hb := hT.2
      have g0 := (meetG_ok2 (b := i) (by omega) l0 l1 m0 m1).1
      have l0' := addTo_len l (i : Int) d0
      have g1 := (meetG_ok2 (b := i + 1) (d0 := addTo d0 l i) (d1 := d1) (by omega) (by omega) (by omega) (addTo_lens l i i d0 m0) (fun p hp => Nat.le_succ_of_le (m1 p hp))).2
      rw [he, hx1, pbind, two_upto]
      refine ⟨[addTo d0 l i, addTo d1 r i], ?_, _, _, rfl, fun v => ?_, fun v => ?_, by omega, by have := addTo_len r (i : Int) d1; omega, addTo_lens l i i d0 m0, addTo_lens r i i d1 m1⟩
      · unfold forO
        rw [pbind, g0, pbind]
        show ((pure (meetS [d0, d1] 0 l i)) >>= _) >>= _ = _
        rw [pbind]
        show (forO _ _ [addTo d0 l i, d1]) >>= _ = _
        unfold forO
        rw [pbind, g1, pbind]
        rfl
      · rw [lk_addTo, posn_succ, n0, h0, h0]
        by_cases c : v = l
        · subst c; rfl
        · rw [if_neg c, if_neg c]
      · rw [lk_addTo, posn_succ, n1, h1, h1]
        by_cases c : v = r
        · subst c; rfl
        · rw [if_neg c, if_neg c])
  refine ⟨d0, d1, ?_, by rw [enumL_len] at h0; exact h0, by rw [enumL_len] at h1; exact h1⟩
  rw [e, pbind]
def oth (T : List (List Int)) (p s : Int) : Option Int := ((posn T T.length s (ndT T p s)).filter fun q => !decide (q = p)).head?
/-- what meeting_edges told -/
def Met (T : List (List Int)) (M : List (List (Int × List Int))) : Prop := ∃ d0 d1, M = [d0, d1] ∧ (∀ v, lk d0 v = posn T T.length 0 v) ∧ ∀ v, lk d1 v = posn T T.length 1 v
theorem other_ok {T : List (List Int)} {M : List (List (Int × List Int))} (hT : Wf T) (hM : Met T M) {p s : Int} (h0 : 0 ≤ p) (h1 : p < T.length) (hs : s = 0 ∨ s = 1) : m_other_edge T M p s = pure (oth T p s) := by
  rw [m_other_edge_eq]
  unfold b_other_edge
  obtain ⟨d0, d1, rfl, k0, k1⟩ := hM
  obtain ⟨e, he, he2⟩ := idx_lt h0 h1
  obtain ⟨l, r, hlr⟩ := hT.1 e (List.mem_of_getElem? he2)
  subst hlr
  have hp : (p.toNat : Int) = p := Int.toNat_of_nonneg h0
  obtain ⟨n0, n1⟩ := ndT_at he2
  rw [hp] at n0 n1
  have hmem : ∀ s, p ∈ posn T T.length s (ndT T p s) := fun s => by
    unfold posn
    rw [List.mem_filter]
    exact ⟨upto_mem.mpr ⟨h0, h1⟩, by simp⟩
  have fin : ∀ (xs : List Int), (compO (fun other4 => ifO (pure (!decide (other4 = p))) (pure other4)) xs >>= fun others => if (!others.isEmpty) = true then (idx others 0) >>= fun t7 => pure (some t7) else pure none) = pure ((xs.filter fun q => !decide (q = p)).head?) := fun xs => by
    rw [compO_ok (c := fun q => pure (!decide (q = p))) (m := fun q => pure q) (p := fun q => !decide (q = p)) (g := fun q => q) xs (fun _ _ => rfl) (fun _ _ _ => rfl), pbind, List.map_id']
    cases h : xs.filter fun q => !decide (q = p) with
    | nil => rfl
    | cons a as =>
      have e0 : idx (a :: as) 0 = pure a := idx_nat (k := 0) rfl
      show (if true = true then idx (a :: as) 0 >>= fun t7 => pure (some t7) else pure none) = _
      rw [if_pos rfl, e0]
      rfl
  rcases hs with rfl | rfl
  · rw [show idx [d0, d1] 0 = pure d0 from rfl, pbind, he, pbind, show idx [l, r] 0 = pure l from rfl, pbind]
    have hne : lk d0 l ≠ [] := by
      rw [k0, ← n0]
      exact List.ne_nil_of_mem (hmem 0)
    rw [dgetO_lk hne, pbind, fin, k0]
    unfold oth
    rw [n0]
  · rw [show idx [d0, d1] 1 = pure d1 from rfl, pbind, he, pbind, show idx [l, r] 1 = pure r from rfl, pbind]
    have hne : lk d1 r ≠ [] := by
      rw [k1, ← n1]
      exact List.ne_nil_of_mem (hmem 1)
    rw [dgetO_lk hne, pbind, fin, k1]
    unfold oth
    rw [n1]
/-- what the other one is -/
theorem oth_some {T : List (List Int)} {p q s : Int} (hq0 : 0 ≤ q) (hq1 : q < T.length) (hne : q ≠ p) (hs : ndT T q s = ndT T p s) (hu : ∀ r : Int, 0 ≤ r → r < T.length → r ≠ p → ndT T r s = ndT T p s → r = q) : oth T p s = some q := by
  unfold oth
  have hmem : q ∈ (posn T T.length s (ndT T p s)).filter fun q => !decide (q = p) := by
    unfold posn
    simp only [List.mem_filter]
    exact ⟨⟨upto_mem.mpr ⟨hq0, hq1⟩, by simp [hs]⟩, by simp [hne]⟩
  have hall : ∀ r ∈ (posn T T.length s (ndT T p s)).filter fun q => !decide (q = p), r = q := fun r hr => by
    unfold posn at hr
    simp only [List.mem_filter] at hr
    obtain ⟨⟨h1, h2⟩, h3⟩ := hr
    obtain ⟨a, b⟩ := upto_mem.mp h1
    exact hu r a b (by simpa using h3) (by simpa using h2)
  cases h : (posn T T.length s (ndT T p s)).filter fun q => !decide (q = p) with
  | nil => rw [h] at hmem; simp at hmem
  | cons a as =>
    rw [h] at hall
    rw [List.head?_cons, hall a (by simp)]
theorem oth_none {T : List (List Int)} {p s : Int} (hu : ∀ r : Int, 0 ≤ r → r < T.length → r ≠ p → ndT T r s ≠ ndT T p s) : oth T p s = none := by
  unfold oth
  have : (posn T T.length s (ndT T p s)).filter (fun q => !decide (q = p)) = [] := by
    rw [List.filter_eq_nil_iff]
    intro r hr
    unfold posn at hr
    simp only [List.mem_filter] at hr
    obtain ⟨a, b⟩ := upto_mem.mp hr.1
    intro hne
    exact hu r a b (by simpa using hne) (by simpa using hr.2)
  rw [this]
  rfl

/-! ### row_from -/
inductive Wk (T : List (List Int)) (p0 : Int) : Int → List Int → Prop where
  | last {s q : Int} : (oth T q s = none ∨ oth T q s = some p0) → Wk T p0 s [q]
  | step {s q q' : Int} {r : List Int} : oth T q s = some q' → q' ≠ p0 → Wk T p0 (1 - s) (q' :: r) → Wk T p0 s (q :: q' :: r)
theorem side_flip {s : Int} (h : s = 0 ∨ s = 1) : 1 - s = 0 ∨ 1 - s = 1 := by omega
theorem row_ok {T : List (List Int)} {M : List (List (Int × List Int))} (hT : Wf T) (hM : Met T M) {p s : Int} {r : List Int} (hs : s = 0 ∨ s = 1) (hr : ∀ q ∈ p :: r, 0 ≤ q ∧ q < T.length) (hl : r.length < 1000000) (hw : Wk T p s (p :: r)) :
    m_row_from T M p s = pure (p :: r) := by
  rw [m_row_from_eq]
  unfold b_row_from
  rw [pbind, pbind, other_ok hT hM (hr p (by simp)).1 (hr p (by simp)).2 hs, pbind]
  obtain ⟨s', e, hq⟩ := while_inv (c := fun (s1 : Int × (Option Int) × (List Int)) => if s1.2.1.isSome = true then pure (!decide (s1.2.1 = some p)) else pure false)
    (f := fun (s1 : Int × (Option Int) × (List Int)) =>
      (unO s1.2.1) >>= fun a2 => appO s1.2.2 a2 >>= fun row =>
      (pure (1 - s1.1)) >>= fun leaving =>
      ((unO s1.2.1) >>= fun t3 => m_other_edge T M t3 leaving) >>= fun following =>
      pure (leaving, following, row))
    (Q := fun s => s.2.2 = p :: r)
    (fun m st => ∃ (σ q : Int) (done rest : List Int), st = (σ, oth T q σ, done ++ [q]) ∧ done ++ (q :: rest) = p :: r ∧ Wk T p σ (q :: rest) ∧ (σ = 0 ∨ σ = 1) ∧ m = rest.length)
    (fun m st ⟨σ, q, done, rest, hst, hd, hw, hσ, hm⟩ => by
      subst hst
      cases hw with
      | last h =>
        refine .inl ⟨?_, hd⟩
        rcases h with h | h
        · rw [h]; rfl
        · rw [h]; simp
      | @step _ _ q' r' h hne hw' =>
        refine .inr ⟨r'.length, by rw [hm]; simp, by rw [h]; simp [hne], (1 - σ, oth T q' (1 - σ), (done ++ [q]) ++ [q']), ?_, 1 - σ, q', done ++ [q], r', rfl, by rw [← hd]; simp, hw', side_flip hσ, rfl⟩
        have hmem : q' ∈ p :: r := by rw [← hd]; simp
        have hlen : (done ++ [q]).length < 16777216 := by
          have := congrArg List.length hd
          simp at this ⊢
          omega
        rw [h]
        show (pure q' : Out Int) >>= _ = _
        rw [pbind, appO_ok hlen, pbind, pbind]
        show ((pure q' : Out Int) >>= _) >>= _ = _
        rw [pbind, other_ok hT hM (hr q' hmem).1 (hr q' hmem).2 (side_flip hσ), pbind])
    FUEL r.length (s, oth T p s, [p]) (by show r.length < 1000000000; omega) ⟨s, p, [], r, rfl, rfl, hw, hs, rfl⟩
  rw [e, pbind, hq]
/-! ### rows by their joints -/
/-- two edges at most at a node -/
def Two (T : List (List Int)) : Prop := ∀ p q r s : Int, 0 ≤ p → p < T.length → 0 ≤ q → q < T.length → 0 ≤ r → r < T.length → (s = 0 ∨ s = 1) → ndT T p s = ndT T q s → ndT T q s = ndT T r s → p = q ∨ q = r ∨ p = r
def Ins (T : List (List Int)) (p : Int) : Prop := 0 ≤ p ∧ p < T.length
theorem oth_two {T : List (List Int)} (h2 : Two T) {p q s : Int} (hp : Ins T p) (hq : Ins T q) (hs : s = 0 ∨ s = 1) (hne : q ≠ p) (h : ndT T q s = ndT T p s) : oth T p s = some q :=
  oth_some hq.1 hq.2 hne h fun r r0 r1 hrp hr => by
    rcases h2 p q r s hp.1 hp.2 hq.1 hq.2 r0 r1 hs h.symm (h.trans hr.symm) with z | z | z
    · exact absurd z.symm hne
    · exact z.symm
    · exact absurd z.symm hrp
/-- neighbours share the node of the side between them; t: the side of the first joint -/
inductive Jn (T : List (List Int)) : Int → List Int → Prop where
  | one {t p : Int} : Jn T t [p]
  | cons {t p q : Int} {r : List Int} : ndT T q t = ndT T p t → Jn T (1 - t) (q :: r) → Jn T t (p :: q :: r)
/-- the side that is left at the last -/
def lastS : Int → List Int → Int
  | t, [] => t
  | t, [_] => t
  | t, _ :: q :: r => lastS (1 - t) (q :: r)
theorem jn_wk {T : List (List Int)} (h2 : Two T) {p0 : Int} : ∀ {t : Int} {c : List Int}, Jn T t c → (∀ q ∈ c, Ins T q) → (t = 0 ∨ t = 1) → c.Nodup → (∀ q ∈ c.tail, q ≠ p0) → (∀ q, c.getLast? = some q → oth T q (lastS t c) = none ∨ oth T q (lastS t c) = some p0) → Wk T p0 t c
  | t, _, .one, _, _, _, _, he => .last (he _ rfl)
  | t, _, @Jn.cons _ _ p q r hj hjn, hi, ht, hn, hp, he => by
    have hne : q ≠ p := by
      intro z
      subst z
      simp at hn
    refine .step (oth_two h2 (hi p (by simp)) (hi q (by simp)) ht hne hj) (hp q (by simp)) ?_
    exact jn_wk h2 hjn (fun x hx => hi x (by simp only [List.mem_cons] at hx ⊢; exact .inr hx)) (side_flip ht) (List.nodup_cons.mp hn).2 (fun x hx => hp x (by simp only [List.tail_cons] at hx ⊢; simp [hx])) (fun x hx => he x (by simpa using hx))

/-! ### open_rows, closed_rows -/
def hd (c : List Int) : Int := c.headD 0
def lst' (c : List Int) : Int := c.getLastD 0
theorem filter_head {β : Type} (h : β → Int) (i : Int) : ∀ {xs : List β}, xs.Pairwise (fun a b => h a < h b) → 
    (∀ c ∈ xs, h c = i → xs.filter (fun a => decide (h a < i + 1)) = xs.filter (fun a => decide (h a < i)) ++ [c]) ∧ ((∀ c ∈ xs, h c ≠ i) → xs.filter (fun a => decide (h a < i + 1)) = xs.filter (fun a => decide (h a < i)))
  | [], _ => ⟨fun c hc => by simp at hc, fun _ => rfl⟩
  | a :: l, hp => by
    obtain ⟨h1, h2⟩ := List.pairwise_cons.mp hp
    obtain ⟨i1, i2⟩ := filter_head h i h2
    have big : i ≤ h a → l.filter (fun a => decide (h a < i + 1)) = [] ∧ l.filter (fun a => decide (h a < i)) = [] := fun hi => by
      constructor
      · rw [List.filter_eq_nil_iff]
        intro b hb
        have := h1 b hb
        simp
        omega
      · rw [List.filter_eq_nil_iff]
        intro b hb
        have := h1 b hb
        simp
        omega
    constructor
    · intro c hc he
      rcases List.mem_cons.mp hc with z | z
      · subst z
        obtain ⟨b1, b2⟩ := big (by omega)
        rw [List.filter_cons_of_pos (by simp; omega), List.filter_cons_of_neg (by simp; omega), b1, b2]
        rfl
      · have := h1 c z
        rw [List.filter_cons_of_pos (by simp; omega), List.filter_cons_of_pos (by simp; omega), i1 c z he]
        rfl
    · intro hn
      have hna := hn a (by simp)
      by_cases c : h a < i
      · rw [List.filter_cons_of_pos (by simp; omega), List.filter_cons_of_pos (by simp; omega), i2 fun c hc => hn c (by simp [hc])]
      · obtain ⟨b1, b2⟩ := big (by omega)
        rw [List.filter_cons_of_neg (by simp; omega), List.filter_cons_of_neg (by simp; omega), b1, b2]
structure OpenRow (T : List (List Int)) (c : List Int) : Prop where
  ne : c ≠ []
  run : ∃ t : Int, (t = 0 ∨ t = 1) ∧ Jn T t c ∧ (∀ q, Ins T q → q ≠ hd c → ndT T q (1 - t) ≠ ndT T (hd c) (1 - t)) ∧ (∀ q, Ins T q → q ≠ lst' c → ndT T q (lastS t c) ≠ ndT T (lst' c) (lastS t c))
  le : hd c ≤ lst' c
structure ClosedRow (T : List (List Int)) (c : List Int) : Prop where
  len : 2 ≤ c.length
  run : Jn T 1 c
  even : lastS 1 c = 0
  close : ndT T (lst' c) 0 = ndT T (hd c) 0
  le : ∀ q ∈ c, hd c ≤ q
theorem jn_head {T : List (List Int)} {t : Int} {c : List Int} (h : Jn T t c) (hl : 2 ≤ c.length) (hn : c.Nodup) : ∃ a ∈ c, a ≠ hd c ∧ ndT T a t = ndT T (hd c) t := by
  cases h with
  | one => simp at hl
  | @cons _ p q r hj _ =>
    refine ⟨q, by simp, fun z => ?_, hj⟩
    have z' : q = p := z
    subst z'
    simp at hn
theorem lastS_01 : ∀ {t : Int} (c : List Int), (t = 0 ∨ t = 1) → lastS t c = 0 ∨ lastS t c = 1
  | t, [], h => h
  | t, [_], h => h
  | t, _ :: q :: r, h => lastS_01 (q :: r) (side_flip h)
theorem lst_cons {p q : Int} {r : List Int} : lst' (p :: q :: r) = lst' (q :: r) := by simp [lst']
theorem lst_mem {c : List Int} (h : c ≠ []) : lst' c ∈ c := by
  unfold lst'
  cases c with
  | nil => exact absurd rfl h
  | cons a l =>
    rw [List.getLastD_cons]
    cases l with
    | nil => simp
    | cons b l => 
      have : (b :: l).getLastD a ∈ b :: l := by
        rw [List.getLastD_eq_getLast?, List.getLast?_eq_some_getLast (by simp)]
        exact List.getLast_mem _
      simp only [List.mem_cons] at this ⊢
      exact .inr this
theorem jn_last {T : List (List Int)} {t : Int} {c : List Int} (h : Jn T t c) (hl : 2 ≤ c.length) (hn : c.Nodup) : ∃ a ∈ c, a ≠ lst' c ∧ ndT T a (1 - lastS t c) = ndT T (lst' c) (1 - lastS t c) := by
  induction h with
  | one => simp at hl
  | @cons t p q r hj hjn ih =>
    rw [lst_cons]
    have hn2 := (List.nodup_cons.mp hn).2
    have hp := (List.nodup_cons.mp hn).1
    by_cases c2 : 2 ≤ (q :: r).length
    · obtain ⟨a, h1, h2, h3⟩ := ih c2 hn2
      exact ⟨a, by simp only [List.mem_cons] at h1 ⊢; exact .inr h1, h2, h3⟩
    · have hr : r = [] := by
        cases r with
        | nil => rfl
        | cons x y => simp at c2
      subst hr
      refine ⟨p, by simp, fun z => ?_, ?_⟩
      · have z' : p = q := z
        subst z'
        simp at hp
      · show ndT T p (1 - (1 - t)) = ndT T q (1 - (1 - t))
        rw [show (1 - (1 - t)) = t by omega]
        exact hj.symm
theorem jn_mid {T : List (List Int)} {t x : Int} {c : List Int} (h : Jn T t c) (hn : c.Nodup) (hx : x ∈ c) (h1 : x ≠ hd c) (h2 : x ≠ lst' c) (ht : t = 0 ∨ t = 1) : ∃ a ∈ c, ∃ b ∈ c, a ≠ x ∧ b ≠ x ∧ ∃ s, (s = 0 ∨ s = 1) ∧ ndT T a s = ndT T x s ∧ ndT T b (1 - s) = ndT T x (1 - s) := by
  induction h with
  | @one t p => exact absurd (List.mem_singleton.mp hx) h1
  | @cons t p q r hj hjn ih =>
    have hn2 := (List.nodup_cons.mp hn).2
    have hp := (List.nodup_cons.mp hn).1
    have hx2 : x ∈ q :: r := by
      rcases List.mem_cons.mp hx with z | z
      · exact absurd z h1
      · exact z
    by_cases c : x = q
    · subst c
      cases hjn with
      | one => exact absurd rfl h2
      | @cons _ _ q2 r2 hj2 _ =>
        refine ⟨p, by simp, q2, by simp, fun z => hp (by simp [z]), fun z => ?_, t, ht, hj.symm, hj2⟩
        subst z
        simp at hn2
    · obtain ⟨a, ha, b, hb, r1⟩ := ih hn2 hx2 c (by rw [lst_cons] at h2; exact h2) (side_flip ht)
      exact ⟨a, by simp only [List.mem_cons] at ha ⊢; exact .inr ha, b, by simp only [List.mem_cons] at hb ⊢; exact .inr hb, r1⟩
theorem oth_shared {T : List (List Int)} (h2 : Two T) {p a s : Int} (hp : Ins T p) (ha : Ins T a) (hs : s = 0 ∨ s = 1) (hne : a ≠ p) (h : ndT T a s = ndT T p s) : (oth T p s).isNone = false := by
  rw [oth_two h2 hp ha hs hne h]
  rfl
theorem flat_nodup {L : List (List Int)} (h : L.flatten.Nodup) {c : List Int} (hc : c ∈ L) : c.Nodup := by
  induction L with
  | nil => simp at hc
  | cons x L ih =>
    rw [List.flatten_cons, List.nodup_append] at h
    rcases List.mem_cons.mp hc with e | e
    · rw [e]; exact h.1
    · exact ih h.2.1 e
structure Sys (T : List (List Int)) (O C : List (List Int)) : Prop where
  wf : Wf T
  two : Two T
  small : T.length < 3000
  perm : (O.flatten ++ C.flatten).Perm (upto T.length)
  opn : ∀ c ∈ O, OpenRow T c
  cls : ∀ c ∈ C, ClosedRow T c
  so : O.Pairwise fun a b => hd a < hd b
  sc : C.Pairwise fun a b => hd a < hd b
section
variable {T : List (List Int)} {O C : List (List Int)}
theorem Sys.nodup (S : Sys T O C) : (O.flatten ++ C.flatten).Nodup := by
  rw [S.perm.nodup_iff]
  unfold upto
  rw [List.nodup_iff_pairwise_ne, List.pairwise_map]
  exact List.pairwise_lt_range.imp fun h => by omega
theorem Sys.ins (S : Sys T O C) {q : Int} {c : List Int} (hc : c ∈ O ∨ c ∈ C) (hq : q ∈ c) : Ins T q := by
  have : q ∈ O.flatten ++ C.flatten := by
    rw [List.mem_append, List.mem_flatten, List.mem_flatten]
    rcases hc with h | h
    · exact .inl ⟨c, h, hq⟩
    · exact .inr ⟨c, h, hq⟩
  exact upto_mem.mp (S.perm.mem_iff.mp this)
theorem Sys.nod (S : Sys T O C) {c : List Int} (hc : c ∈ O ∨ c ∈ C) : c.Nodup := by
  have h := S.nodup
  rw [List.nodup_append] at h
  rcases hc with hc | hc
  · exact flat_nodup h.1 hc
  · exact flat_nodup h.2.1 hc
theorem Sys.at_ (S : Sys T O C) {q : Int} (hq : Ins T q) : ∃ c, (c ∈ O ∨ c ∈ C) ∧ q ∈ c := by
  have := S.perm.mem_iff.mpr (upto_mem.mpr hq)
  rw [List.mem_append, List.mem_flatten, List.mem_flatten] at this
  rcases this with ⟨c, h, hq⟩ | ⟨c, h, hq⟩
  · exact ⟨c, .inl h, hq⟩
  · exact ⟨c, .inr h, hq⟩
theorem flat_uniq {L : List (List Int)} (h : L.flatten.Nodup) {a b : List Int} {q : Int} (ha : a ∈ L) (hb : b ∈ L) (h1 : q ∈ a) (h2 : q ∈ b) : a = b := by
  induction L with
  | nil => simp at ha
  | cons x L ih =>
    rw [List.flatten_cons, List.nodup_append] at h
    rcases List.mem_cons.mp ha with e | e
    · rcases List.mem_cons.mp hb with g | g
      · rw [e, g]
      · subst e
        exact absurd rfl (h.2.2 q h1 q (List.mem_flatten.mpr ⟨b, g, h2⟩))
    · rcases List.mem_cons.mp hb with g | g
      · subst g
        exact absurd rfl (h.2.2 q h2 q (List.mem_flatten.mpr ⟨a, e, h1⟩))
      · exact ih h.2.1 e g
theorem Sys.unO (S : Sys T O C) {a b : List Int} {q : Int} (ha : a ∈ O) (hb : b ∈ O) (h1 : q ∈ a) (h2 : q ∈ b) : a = b := by
  have h := S.nodup
  rw [List.nodup_append] at h
  exact flat_uniq h.1 ha hb h1 h2
theorem Sys.unC (S : Sys T O C) {a b : List Int} {q : Int} (ha : a ∈ C) (hb : b ∈ C) (h1 : q ∈ a) (h2 : q ∈ b) : a = b := by
  have h := S.nodup
  rw [List.nodup_append] at h
  exact flat_uniq h.2.1 ha hb h1 h2
theorem Sys.unOC (S : Sys T O C) {a b : List Int} {q : Int} (ha : a ∈ O) (hb : b ∈ C) (h1 : q ∈ a) (h2 : q ∈ b) : False := by
  have h := S.nodup
  rw [List.nodup_append] at h
  exact h.2.2 q (List.mem_flatten.mpr ⟨a, ha, h1⟩) q (List.mem_flatten.mpr ⟨b, hb, h2⟩) rfl
theorem hd_mem {c : List Int} (h : c ≠ []) : hd c ∈ c := by
  cases c with
  | nil => exact absurd rfl h
  | cons a l => simp [hd]
/-- no free side in a closed row -/
theorem Sys.not_freeC (S : Sys T O C) {c : List Int} {q : Int} (hc : c ∈ C) (hq : q ∈ c) : (oth T q 0).isNone = false ∧ (oth T q 1).isNone = false := by
  have R := S.cls c hc
  have hn := S.nod (.inr hc)
  have hi := fun x (hx : x ∈ c) => S.ins (.inr hc) hx
  have hne : c ≠ [] := fun z => by have := R.len; rw [z] at this; simp at this
  have hhl : hd c ≠ lst' c := by
    obtain ⟨a, h1, h2, h3⟩ := jn_last R.run R.len hn
    have R2 := R.len
    intro z
    cases c with
    | nil => exact hne rfl
    | cons x l =>
      cases l with
      | nil => simp at R2
      | cons y l =>
        rw [lst_cons] at z
        have : hd (x :: y :: l) ∈ y :: l := by rw [z]; exact lst_mem (by simp)
        exact (List.nodup_cons.mp hn).1 this
  by_cases e1 : q = hd c
  · subst e1
    obtain ⟨a, h1, h2, h3⟩ := jn_head R.run R.len hn
    exact ⟨oth_shared S.two (hi _ hq) (hi _ (lst_mem hne)) (.inl rfl) hhl.symm R.close, oth_shared S.two (hi _ hq) (hi a h1) (.inr rfl) h2 h3⟩
  · by_cases e2 : q = lst' c
    · subst e2
      obtain ⟨a, h1, h2, h3⟩ := jn_last R.run R.len hn
      rw [R.even] at h3
      exact ⟨oth_shared S.two (hi _ hq) (hi _ (hd_mem hne)) (.inl rfl) hhl R.close.symm, oth_shared S.two (hi _ hq) (hi a h1) (.inr rfl) h2 h3⟩
    · obtain ⟨a, ha, b, hb, n1, n2, s, hs, g1, g2⟩ := jn_mid R.run hn hq e1 e2 (.inr rfl)
      rcases hs with rfl | rfl
      · exact ⟨oth_shared S.two (hi _ hq) (hi a ha) (.inl rfl) n1 g1, oth_shared S.two (hi _ hq) (hi b hb) (.inr rfl) n2 g2⟩
      · exact ⟨oth_shared S.two (hi _ hq) (hi b hb) (.inl rfl) n2 g2, oth_shared S.two (hi _ hq) (hi a ha) (.inr rfl) n1 g1⟩
/-- a free side in an open row is at an end -/
theorem Sys.freeO (S : Sys T O C) {c : List Int} {q : Int} (hc : c ∈ O) (hq : q ∈ c) (h1 : q ≠ hd c) (h2 : q ≠ lst' c) : (oth T q 0).isNone = false ∧ (oth T q 1).isNone = false := by
  obtain ⟨t, ht, R, _⟩ := (S.opn c hc).run
  have hn := S.nod (.inl hc)
  have hi := fun x (hx : x ∈ c) => S.ins (.inl hc) hx
  obtain ⟨a, ha, b, hb, n1, n2, s, hs, g1, g2⟩ := jn_mid R hn hq h1 h2 ht
  rcases hs with rfl | rfl
  · exact ⟨oth_shared S.two (hi _ hq) (hi a ha) (.inl rfl) n1 g1, oth_shared S.two (hi _ hq) (hi b hb) (.inr rfl) n2 g2⟩
  · exact ⟨oth_shared S.two (hi _ hq) (hi b hb) (.inl rfl) n2 g2, oth_shared S.two (hi _ hq) (hi a ha) (.inr rfl) n1 g1⟩
end

theorem flat_app (L : List (List Int)) (c : List Int) : (L ++ [c]).flatten = L.flatten ++ c := by simp
theorem add_all {seen c : List Int} (h : seen.length + c.length ≤ 3900) : ∃ s', forO (fun (s10 : (List Int)) (x11 : Int) => (pure x11) >>= fun a12 => addO s10 a12 >>= fun seen => pure seen) c seen = pure s' ∧ (∀ x, x ∈ s' ↔ x ∈ seen ∨ x ∈ c) ∧ s'.length ≤ seen.length + c.length := by
  induction c generalizing seen with
  | nil => exact ⟨seen, rfl, by simp, by simp⟩
  | cons a l ih =>
    simp only [List.length_cons] at h
    unfold forO
    rw [pbind]
    have e : addO seen a = pure (if a ∈ seen then seen else seen ++ [a]) := if_pos (by omega)
    rw [e, pbind, pbind]
    have hl : (if a ∈ seen then seen else seen ++ [a]).length ≤ seen.length + 1 := by
      by_cases c : a ∈ seen
      · rw [if_pos c]; omega
      · rw [if_neg c]; simp
    obtain ⟨s', e', h1, h2⟩ := ih (seen := if a ∈ seen then seen else seen ++ [a]) (by omega)
    refine ⟨s', e', fun x => ?_, by simp only [List.length_cons]; omega⟩
    rw [h1]
    by_cases c : a ∈ seen
    · rw [if_pos c]
      simp only [List.mem_cons]
      constructor
      · rintro (g | g)
        · exact .inl g
        · exact .inr (.inr g)
      · rintro (g | g | g)
        · exact .inl g
        · subst g; exact .inl c
        · exact .inr g
    · rw [if_neg c]
      simp only [List.mem_append, List.mem_cons, List.not_mem_nil, or_false, or_assoc]
section
variable {T : List (List Int)} {O C : List (List Int)}
theorem Sys.len_flat (S : Sys T O C) : O.flatten.length + C.flatten.length = T.length := by
  have := S.perm.length_eq
  rw [List.length_append, upto_len] at this
  exact this
theorem sub_len {L : List (List Int)} (p : List Int → Bool) : (L.filter p).flatten.length ≤ L.flatten.length := by
  induction L with
  | nil => simp
  | cons a l ih =>
    rw [List.flatten_cons, List.length_append]
    by_cases c : p a = true
    · rw [List.filter_cons_of_pos c, List.flatten_cons, List.length_append]; omega
    · rw [List.filter_cons_of_neg c]; omega
/-- the row of an open row's head -/
theorem Sys.rowO (S : Sys T O C) {M : List (List (Int × List Int))} (hM : Met T M) {c : List Int} (hc : c ∈ O) :
    ((oth T (hd c) 0).isNone = true ∨ (oth T (hd c) 1).isNone = true) ∧ m_row_from T M (hd c) (if (oth T (hd c) 0).isNone = true then 1 else 0) = pure c := by
  have R := S.opn c hc
  obtain ⟨t, ht, hj, hh, hl⟩ := R.run
  have hn := S.nod (.inl hc)
  have hi := fun x (hx : x ∈ c) => S.ins (.inl hc) hx
  have hlen : c.length < 3000 := by
    have h1 := S.len_flat
    have h2 := S.small
    have h3 : c.length ≤ O.flatten.length := (List.sublist_flatten_of_mem hc).length_le
    omega
  have free : oth T (hd c) (1 - t) = none := oth_none fun r r0 r1 hr => hh r ⟨r0, r1⟩ hr
  obtain ⟨p, r, rfl⟩ : ∃ p r, c = p :: r := by
    cases c with
    | nil => exact absurd rfl R.ne
    | cons p r => exact ⟨p, r, rfl⟩
  have hp : hd (p :: r) = p := rfl
  rw [hp] at free hh ⊢
  have wk : ∀ s, (s = t ∨ r = []) → (s = 0 ∨ s = 1) → Wk T p s (p :: r) := fun s h hs => by
    rcases h with h | h
    · subst h
      refine jn_wk S.two hj hi ht hn (fun q hq => ?_) fun q hq => ?_
      · intro z
        subst z
        exact (List.nodup_cons.mp hn).1 hq
      · have e : lst' (p :: r) = q := by
          unfold lst'
          rw [List.getLastD_eq_getLast?, hq]
          rfl
        rw [e] at hl
        exact .inl (oth_none fun x x0 x1 hx => hl x ⟨x0, x1⟩ hx)
    · subst h
      refine .last (.inl ?_)
      have hl' : oth T p t = none := oth_none fun x x0 x1 hx => hl x ⟨x0, x1⟩ hx
      rcases hs with rfl | rfl
      · rcases ht with rfl | rfl
        · exact hl'
        · exact free
      · rcases ht with rfl | rfl
        · exact free
        · exact hl'
  have row : ∀ s, (s = t ∨ r = []) → (s = 0 ∨ s = 1) → m_row_from T M p s = pure (p :: r) := fun s h hs => row_ok S.wf hM hs (fun q hq => hi q hq) (by simp only [List.length_cons] at hlen; omega) (wk s h hs)
  by_cases hr : r = []
  · constructor
    · rcases ht with rfl | rfl
      · right; rw [show (1 : Int) = 1 - 0 by rfl, free]; rfl
      · left; rw [show (0 : Int) = 1 - 1 by rfl, free]; rfl
    · exact row _ (.inr hr) (by split <;> simp)
  · have h2 : 2 ≤ (p :: r).length := by
      cases r with
      | nil => exact absurd rfl hr
      | cons a l => simp
    obtain ⟨a, ha, hne, hs⟩ := jn_head hj h2 hn
    have nf : (oth T p t).isNone = false := oth_shared S.two (hi p (by simp)) (hi a ha) ht hne hs
    rcases ht with rfl | rfl
    · refine ⟨.inr (by rw [show (1 : Int) = 1 - 0 by rfl, free]; rfl), ?_⟩
      rw [nf, if_neg Bool.false_ne_true]
      exact row 0 (.inl rfl) (.inl rfl)
    · have f0 : (oth T p 0).isNone = true := by rw [show (0 : Int) = 1 - 1 by rfl, free]; rfl
      refine ⟨.inl f0, ?_⟩
      rw [f0, if_pos rfl]
      exact row 1 (.inl rfl) (.inr rfl)
theorem Sys.rowC (S : Sys T O C) {M : List (List (Int × List Int))} (hM : Met T M) {c : List Int} (hc : c ∈ C) : m_row_from T M (hd c) 1 = pure c := by
  have R := S.cls c hc
  have hn := S.nod (.inr hc)
  have hi := fun x (hx : x ∈ c) => S.ins (.inr hc) hx
  have hlen : c.length < 3000 := by
    have h1 := S.len_flat
    have h2 := S.small
    have h3 : c.length ≤ C.flatten.length := (List.sublist_flatten_of_mem hc).length_le
    omega
  have hne : c ≠ [] := fun z => by have := R.len; rw [z] at this; simp at this
  obtain ⟨p, r, rfl⟩ : ∃ p r, c = p :: r := by
    cases c with
    | nil => exact absurd rfl hne
    | cons p r => exact ⟨p, r, rfl⟩
  show m_row_from T M p 1 = pure (p :: r)
  refine row_ok S.wf hM (.inr rfl) (fun q hq => hi q hq) (by simp only [List.length_cons] at hlen; omega) (jn_wk S.two R.run hi (.inr rfl) hn (fun q hq => ?_) fun q hq => .inr ?_)
  · intro z
    subst z
    exact (List.nodup_cons.mp hn).1 hq
  · have e : lst' (p :: r) = q := by
      unfold lst'
      rw [List.getLastD_eq_getLast?, hq]
      rfl
    have hcl := R.close
    rw [e] at hcl
    rw [R.even]
    have hq2 : q ∈ p :: r := by rw [← e]; exact lst_mem hne
    refine oth_two S.two (hi q hq2) (hi p (by simp)) (.inl rfl) (fun z => ?_) hcl.symm
    have R2 := R.len
    cases r with
    | nil => simp at R2
    | cons y l =>
      have : q ∈ y :: l := by rw [← e, lst_cons]; exact lst_mem (by simp)
      rw [← z] at this
      exact (List.nodup_cons.mp hn).1 this
theorem len_le_flat {L : List (List Int)} (hne : ∀ c ∈ L, c ≠ []) : L.length ≤ L.flatten.length := by
  induction L with
  | nil => simp
  | cons a l ih =>
    have := ih fun c hc => hne c (by simp [hc])
    have ha := List.length_pos_iff.mpr (hne a (by simp))
    simp only [List.length_cons, List.flatten_cons, List.length_append]
    omega
theorem mem_filter_flat {L : List (List Int)} {p : List Int → Bool} {q : Int} : q ∈ (L.filter p).flatten ↔ ∃ c ∈ L, p c = true ∧ q ∈ c := by
  rw [List.mem_flatten]
  constructor
  · rintro ⟨c, h1, h2⟩
    rw [List.mem_filter] at h1
    exact ⟨c, h1.1, h1.2, h2⟩
  · rintro ⟨c, h1, h2, h3⟩
    exact ⟨c, List.mem_filter.mpr ⟨h1, h2⟩, h3⟩
theorem open_ok (S : Sys T O C) {M : List (List (Int × List Int))} (hM : Met T M) : m_open_rows T M = pure O := by
  rw [m_open_rows_eq]
  unfold b_open_rows
  rw [pbind, pbind, pbind]
  obtain ⟨s', e, h1, _⟩ := forO_inv0 (f := fun (s1 : (List (List Int)) × (List Int)) (x2 : Int) =>
    ((pure (upto 2)) >>= fun xs5 => mapO (fun side3 => (m_other_edge T M x2 side3) >>= fun t4 => pure t4.isNone) xs5) >>= fun free =>
    (if (!decide (x2 ∈ s1.2)) = true then pure (free.any id) else pure false) >>= fun c6 => if c6 = true then (
    (((idx free 0) >>= fun t7 => if t7 = true then pure 1 else pure 0) >>= fun t8 => m_row_from T M x2 t8) >>= fun row =>
    (pure row) >>= fun a9 => appO s1.1 a9 >>= fun rows =>
    ((pure row) >>= fun xs13 => forO (fun (s10 : (List Int)) (x11 : Int) =>
    (pure x11) >>= fun a12 => addO s10 a12 >>= fun seen =>
    pure seen) xs13 s1.2) >>= fun s14 =>
    pure (rows, s14))
    else (
    pure (s1.1, s1.2)))
    (fun i s => s.1 = O.filter (fun c => decide (hd c < i)) ∧ (∀ x, x ∈ s.2 ↔ x ∈ s.1.flatten) ∧ s.2.length ≤ s.1.flatten.length)
    (upto T.length) ([], []) ⟨by
      have : O.filter (fun c => decide (hd c < ((0 : Nat) : Int))) = [] := by
        rw [List.filter_eq_nil_iff]
        intro c hc
        have := (S.ins (.inl hc) (hd_mem (S.opn c hc).ne)).1
        simp
        omega
      exact this.symm, by simp, by simp⟩ (fun i s x hx ⟨hr, hse, hsl⟩ => by
      obtain ⟨rfl, hi⟩ := upto_at hx
      have hin : Ins T (i : Int) := ⟨by omega, by omega⟩
      obtain ⟨f1, f2⟩ := filter_head hd (i : Int) S.so
      rw [pbind, two_upto, mapO_ok (g := fun sd => (oth T i sd).isNone) [0, 1] (fun sd hsd => by
        have : sd = 0 ∨ sd = 1 := by simpa using hsd
        rw [other_ok S.wf hM hin.1 hin.2 this]
        rfl), pbind]
      have e1 : ((i + 1 : Nat) : Int) = (i : Int) + 1 := by omega
      have hany : ([0, 1].map fun sd => (oth T i sd).isNone).any id = ((oth T i 0).isNone || (oth T i 1).isNone) := by simp
      by_cases c : ∃ c ∈ O, hd c = i
      · obtain ⟨c, hc, he⟩ := c
        obtain ⟨g1, g2⟩ := S.rowO hM hc
        rw [he] at g1 g2
        have hns : (i : Int) ∉ s.2 := fun z => by
          rw [hse, hr, mem_filter_flat] at z
          obtain ⟨c2, k1, k2, k3⟩ := z
          have : c2 = c := S.unO k1 hc k3 (he ▸ hd_mem (S.opn c hc).ne)
          subst this
          rw [he] at k2
          simp at k2
        have hfree : ((oth T i 0).isNone || (oth T i 1).isNone) = true := by
          rcases g1 with g | g <;> rw [g] <;> simp
        rw [if_pos (by simp [hns]), hany, hfree, pbind, if_pos rfl]
        have hz : idx ([0, 1].map fun sd => (oth T i sd).isNone) 0 = pure (oth T i 0).isNone := idx_nat (k := 0) rfl
        rw [hz, pbind]
        have hsd : (if (oth T i 0).isNone = true then (pure 1 : Out Int) else pure 0) = pure (if (oth T i 0).isNone = true then 1 else 0) := by split <;> rfl
        rw [hsd, pbind, g2, pbind, pbind]
        have hl1 : s.1.length < 16777216 := by
          have : s.1.length ≤ O.length := by rw [hr]; exact List.length_filter_le _ _
          have h3 : O.length ≤ O.flatten.length := len_le_flat fun c hc => (S.opn c hc).ne
          have := S.len_flat
          have := S.small
          omega
        rw [appO_ok hl1, pbind, pbind]
        have hflat : (s.1 ++ [c]).flatten.length ≤ T.length := by
          have h4 := f1 c hc he
          rw [hr, ← h4]
          have := sub_len (L := O) (fun a => decide (hd a < (i : Int) + 1))
          have := S.len_flat
          omega
        rw [flat_app, List.length_append] at hflat
        have hsm := S.small
        obtain ⟨s2, e2, m1, m2⟩ := add_all (seen := s.2) (c := c) (by omega)
        rw [e2, pbind]
        refine ⟨_, rfl, by rw [e1, f1 c hc he, hr], fun x => ?_, ?_⟩
        · rw [m1, flat_app, List.mem_append, hse]
        · show s2.length ≤ (s.1 ++ [c]).flatten.length
          rw [flat_app, List.length_append]
          omega
      · have hskip : (if (!decide ((i : Int) ∈ s.2)) = true then (pure (([0, 1].map fun sd => (oth T i sd).isNone).any id) : Out Bool) else pure false) = pure false := by
          rw [hany]
          by_cases hm : (i : Int) ∈ s.2
          · simp [hm]
          · have : ((oth T i 0).isNone || (oth T i 1).isNone) = false := by
              obtain ⟨c2, k1, k2⟩ := S.at_ hin
              rcases k1 with k1 | k1
              · have hnh : (i : Int) ≠ hd c2 := fun z => c ⟨c2, k1, z.symm⟩
                have hnl : (i : Int) ≠ lst' c2 := fun z => by
                  refine hm ?_
                  rw [hse, hr, mem_filter_flat]
                  refine ⟨c2, k1, ?_, k2⟩
                  have := (S.opn c2 k1).le
                  simp
                  omega
                obtain ⟨a, b⟩ := S.freeO k1 k2 hnh hnl
                rw [a, b]; rfl
              · obtain ⟨a, b⟩ := S.not_freeC k1 k2
                rw [a, b]; rfl
            rw [this]
            split <;> rfl
        rw [hskip, pbind, if_neg Bool.false_ne_true]
        refine ⟨_, rfl, ?_, hse, hsl⟩
        rw [e1, f2 (fun c2 k1 k2 => c ⟨c2, k1, k2⟩)]
        exact hr)
  rw [e, pbind, h1, upto_len]
  congr 1
  rw [List.filter_eq_self]
  intro c hc
  have := (S.ins (.inl hc) (hd_mem (S.opn c hc).ne)).2
  simp
  exact this
theorem closed_ok (S : Sys T O C) {M : List (List (Int × List Int))} (hM : Met T M) : m_closed_rows T M O.flatten = pure C := by
  rw [m_closed_rows_eq]
  unfold b_closed_rows
  have hsm := S.small
  have hlf := S.len_flat
  have e0 : setOfO O.flatten = pure O.flatten := if_pos (by omega)
  rw [pbind, e0, pbind, pbind]
  have hneC : ∀ c ∈ C, c ≠ [] := fun c hc z => by have := (S.cls c hc).len; rw [z] at this; simp at this
  obtain ⟨s', e, h1, _⟩ := forO_inv0 (f := fun (s1 : (List (List Int)) × (List Int)) (x2 : Int) =>
    (pure (!decide (x2 ∈ s1.2))) >>= fun c3 => if c3 = true then (
    (m_row_from T M x2 1) >>= fun row =>
    (pure row) >>= fun a4 => appO s1.1 a4 >>= fun rows =>
    ((pure row) >>= fun xs8 => forO (fun (s5 : (List Int)) (x6 : Int) =>
    (pure x6) >>= fun a7 => addO s5 a7 >>= fun seen =>
    pure seen) xs8 s1.2) >>= fun s9 =>
    pure (rows, s9))
    else (
    pure (s1.1, s1.2)))
    (fun i s => s.1 = C.filter (fun c => decide (hd c < i)) ∧ (∀ x, x ∈ s.2 ↔ x ∈ O.flatten ∨ x ∈ s.1.flatten) ∧ s.2.length ≤ O.flatten.length + s.1.flatten.length)
    (upto T.length) ([], O.flatten) ⟨by
      have : C.filter (fun c => decide (hd c < ((0 : Nat) : Int))) = [] := by
        rw [List.filter_eq_nil_iff]
        intro c hc
        have := (S.ins (.inr hc) (hd_mem (hneC c hc))).1
        simp
        omega
      exact this.symm, by simp, by simp⟩ (fun i s x hx ⟨hr, hse, hsl⟩ => by
      obtain ⟨rfl, hi⟩ := upto_at hx
      have hin : Ins T (i : Int) := ⟨by omega, by omega⟩
      obtain ⟨f1, f2⟩ := filter_head hd (i : Int) S.sc
      have e1 : ((i + 1 : Nat) : Int) = (i : Int) + 1 := by omega
      rw [pbind]
      by_cases c : ∃ c ∈ C, hd c = i
      · obtain ⟨c, hc, he⟩ := c
        have g2 := S.rowC hM hc
        rw [he] at g2
        have hic : (i : Int) ∈ c := he ▸ hd_mem (hneC c hc)
        have hns : (i : Int) ∉ s.2 := fun z => by
          rw [hse, hr, mem_filter_flat] at z
          rcases z with z | ⟨c2, k1, k2, k3⟩
          · obtain ⟨a, ha, hq⟩ := List.mem_flatten.mp z
            exact S.unOC ha hc hq hic
          · have : c2 = c := S.unC k1 hc k3 hic
            subst this
            rw [he] at k2
            simp at k2
        rw [if_pos (by simp [hns]), g2, pbind, pbind]
        have hflat : (s.1 ++ [c]).flatten.length ≤ C.flatten.length := by
          have h4 := f1 c hc he
          rw [hr, ← h4]
          exact sub_len (L := C) (fun a => decide (hd a < (i : Int) + 1))
        rw [flat_app, List.length_append] at hflat
        have hl1 : s.1.length < 16777216 := by
          have : s.1.length ≤ C.length := by rw [hr]; exact List.length_filter_le _ _
          have h3 : C.length ≤ C.flatten.length := len_le_flat hneC
          omega
        rw [appO_ok hl1, pbind, pbind]
        obtain ⟨s2, e2, m1, m2⟩ := add_all (seen := s.2) (c := c) (by omega)
        rw [e2, pbind]
        refine ⟨_, rfl, by rw [e1, f1 c hc he, hr], fun x => ?_, ?_⟩
        · rw [m1, flat_app, List.mem_append, hse, or_assoc]
        · show s2.length ≤ O.flatten.length + (s.1 ++ [c]).flatten.length
          rw [flat_app, List.length_append]
          omega
      · have hm : (i : Int) ∈ s.2 := by
          obtain ⟨c2, k1, k2⟩ := S.at_ hin
          rw [hse]
          rcases k1 with k1 | k1
          · exact .inl (List.mem_flatten.mpr ⟨c2, k1, k2⟩)
          · refine .inr ?_
            rw [hr, mem_filter_flat]
            refine ⟨c2, k1, ?_, k2⟩
            have h5 := (S.cls c2 k1).le i k2
            have h6 : hd c2 ≠ i := fun z => c ⟨c2, k1, z⟩
            simp
            omega
        rw [if_neg (by simp [hm])]
        refine ⟨_, rfl, ?_, hse, hsl⟩
        rw [e1, f2 (fun c2 k1 k2 => c ⟨c2, k1, k2⟩)]
        exact hr)
  rw [e, pbind, h1, upto_len]
  congr 1
  rw [List.filter_eq_self]
  intro c hc
  have := (S.ins (.inr hc) (hd_mem (hneC c hc))).2
  simp
  exact this
end

/-! ### hue_rows, _law_same, _law_asked -/
theorem asAll_map {α β : Type} {f : PyData → Out β} {g : α → PyData} {h : α → β} : ∀ xs : List α, (∀ x ∈ xs, f (g x) = pure (h x)) → asAll f (xs.map g) = pure (xs.map h)
  | [], _ => rfl
  | x :: xs, hx => by
    have ih := asAll_map xs fun y hy => hx y (by simp [hy])
    rw [List.map_cons, List.map_cons]
    unfold asAll
    rw [hx x (by simp), ih]
    rfl
theorem frz_lists (T : List (List Int)) : asTup (asTup asInt) (frzD ((cLst (cLst cInt)).d T)) = pure T := by
  have e : frzD ((cLst (cLst cInt)).d T) = .tuple (T.map fun xs => .tuple (xs.map .int)) := by
    show frzD (.list (T.map (cLst cInt).d)) = _
    rw [frzD, frzDs_map, List.map_map]
    congr 1
    refine List.map_congr_left fun xs _ => ?_
    show frzD (.list (xs.map cInt.d)) = _
    rw [frzD, frzDs_map, List.map_map]
    congr 1
  rw [e]
  show asAll (asTup asInt) _ = _
  rw [asAll_map (h := fun xs => xs) T fun xs _ => ?_, List.map_id']
  show asAll asInt _ = _
  rw [asAll_map (h := fun x => x) xs fun x _ => rfl, List.map_id']
theorem frz_pairs (E : List (Int × Int)) : asTup (asTup asInt) (frzD ((cTup (cT2 cInt cInt)).d E)) = pure (E.map fun e => [e.1, e.2]) := by
  have e : frzD ((cTup (cT2 cInt cInt)).d E) = .tuple (E.map fun e => .tuple [.int e.1, .int e.2]) := by
    show frzD (.tuple (E.map (cT2 cInt cInt).d)) = _
    rw [frzD, frzDs_map, List.map_map]
    congr 1
  rw [e]
  show asAll (asTup asInt) _ = _
  rw [asAll_map (h := fun e => [e.1, e.2]) E fun e _ => rfl]
theorem dn_ok {α : Type} [DecidableEq α] (c : Code α) (a : α) (h : c.n ≤ 8) : dnO 8 (c.d a) = pure (c.d a) := if_pos (Nat.le_trans (c.dep a) h)
theorem hue_ok {T : List (List Int)} {O C : List (List Int)} (S : Sys T O C) {d h : PyData} (h1 : dnO 8 d = pure d) (h2 : asTup (asTup asInt) (frzD d) = pure T) : m_hue_rows d h = pure (O ++ C) := by
  rw [m_hue_rows_eq]
  unfold b_hue_rows
  rw [h1, pbind, m_frozen_eq]
  show (((pure (frzD d) : Out PyData) >>= _) >>= _) = _
  rw [pbind, h2, pbind]
  obtain ⟨d0, d1, e, k0, k1⟩ := meeting_ok S.wf
  rw [e, pbind]
  have hM : Met T [d0, d1] := ⟨d0, d1, rfl, k0, k1⟩
  have hsm := S.small
  have hlf := S.len_flat
  rw [open_ok S hM, pbind, pbind, comp2_flat (h := fun p => p) (g := fun _ q => q) O (fun _ _ => rfl), pbind]
  have ef : (O.flatMap fun x => x.map fun q => q) = O.flatten := by
    rw [List.flatMap_def]
    congr 1
    rw [show (fun x : List Int => x.map fun q => q) = id from funext fun x => List.map_id' x, List.map_id]
  rw [ef, limO_ok (by omega), pbind, closed_ok S hM, pbind, catO_ok (by
    have := len_le_flat fun c hc => (S.opn c hc).ne
    have := len_le_flat (L := C) fun c hc z => by have := (S.cls c hc).len; rw [z] at this; simp at this
    omega), pbind]
theorem forR_nx {α ρ : Type} {f : Unit → α → Out (Step ρ Unit)} : ∀ xs : List α, (∀ x ∈ xs, f () x = pure (Step.nx ())) → forR f xs () = pure (Step.nx ())
  | [], _ => rfl
  | x :: xs, h => by
    unfold forR
    rw [h x (by simp)]
    exact forR_nx xs fun y hy => h y (by simp [hy])
theorem same_ok (d : List (List Int)) : m_law_same d d = pure true := by
  rw [m_law_same_eq]
  unfold b_law_same
  have h0 : (if (!true) = true then (pure true : Out Bool) else pure (!decide ((d.length : Int) = (d.length : Int)))) = pure false := by simp
  rw [h0, pbind, if_neg Bool.false_ne_true, pbind]
  have hw : ∀ x, m_law_whole x = pure true := fun x => by
    rw [m_law_whole_eq]
    rfl
  rw [forR_nx (upto d.length) fun x hx => ?_]
  · show (pure (decide (d = d)) : Out Bool) = _
    simp
  · obtain ⟨h1, h2⟩ := upto_mem.mp hx
    obtain ⟨a, ha, _⟩ := idx_lt h1 h2
    show ((((idx d x) >>= fun t4 => pure true) >>= fun t5 => pure (!t5)) >>= _) >>= _ = _
    rw [ha, pbind, pbind, pbind]
    have h3 : (if (!true) = true then (pure true : Out Bool) else (pure a >>= fun t6 => pure (t6.length : Int)) >>= fun t8 => (pure a >>= fun t7 => pure (t7.length : Int)) >>= fun t9 => pure (!decide (t8 = t9))) = pure false := by
      rw [if_neg (by simp)]
      show (pure (!decide ((a.length : Int) = (a.length : Int))) : Out Bool) = pure false
      rw [decide_eq_true rfl]
      rfl
    rw [h3, pbind, if_neg Bool.false_ne_true, pbind, forR_nx a fun y _ => by
      show ((m_law_whole y >>= fun t15 => pure (!t15)) >>= _) = _
      rw [hw, pbind, pbind]
      rfl]
    rfl
theorem asked_ok {E : List (Int × Int)} {hues : List Int} {O C : List (List Int)} (S : Sys (E.map fun e => [e.1, e.2]) O C) : m_law_asked E hues (O ++ C) = pure true := by
  rw [m_law_asked_eq]
  unfold b_law_asked
  have hm : mapO (fun e : Int × Int => (pure [e.1, e.2] : Out (List Int))) E = pure (E.map fun e => [e.1, e.2]) := mapO_ok E fun _ _ => rfl
  rw [pbind, hm, pbind, pbind, hue_ok S (dn_ok (cLst (cLst cInt)) _ (by decide)) (frz_lists _), pbind, same_ok, pbind, if_pos rfl, pbind, pbind]
  simp

/-! ### the parts that the law builds -/
def cm (e : Int × Int) (s : Int) : Int := if s = 0 then e.1 else e.2
def bs (b : Int × Int) (s : Int) : Int := if s = 0 then b.1 else b.2
/-- the vertex of edge o at the side s -/
def vx (cl : Bool) (size side o s : Int) : Int := if (side + o) % 2 = s then o else if cl = true ∧ o + 1 = size then 0 else o + 1
theorem end_ok {side k : Int} {b : Int × Int} (hs : side = 0 ∨ side = 1) (hk : 0 ≤ k) : m_law_end side k [b.1, b.2] = pure ((side + k) % 2, bs b ((side + k) % 2) + k / 2) := by
  rw [m_law_end_eq]
  unfold b_law_end
  rw [pbind]
  have : (side + k) % 2 = 0 ∨ (side + k) % 2 = 1 := by omega
  rcases this with h | h
  · rw [h, show idx [b.1, b.2] 0 = pure b.1 from rfl, pbind, pbind]
    rfl
  · rw [h, show idx [b.1, b.2] 1 = pure b.2 from rfl, pbind, pbind]
    rfl
/-- what a part is -/
structure Part (cl : Bool) (size side : Int) (b : Int × Int) (es : List (Int × Int)) : Prop where
  len : (es.length : Int) = size
  at_ : ∀ (o : Nat) e, es[o]? = some e → ∀ s, (s = 0 ∨ s = 1) → cm e s = bs b s + vx cl size side o s / 2
theorem edges_ok {cl : Bool} {size side : Int} {b : Int × Int} (hs : side = 0 ∨ side = 1) (h0 : 1 ≤ size) (h1 : size < 100000) (hc : cl = true → size % 2 = 0) : ∃ es, m_law_row_edges cl size side [b.1, b.2] = pure es ∧ Part cl size side b es := by
  rw [m_law_row_edges_eq]
  unfold b_law_row_edges
  obtain ⟨n, rfl⟩ : ∃ n : Nat, size = (n : Int) := ⟨size.toNat, by omega⟩
  rw [pbind, rangeO_nat (by omega), pbind]
  obtain ⟨es, e, hl, ha⟩ := forO_inv0 (f := fun (s1 : (List (Int × Int))) (x2 : Int) =>
    (m_law_end side x2 [b.1, b.2]) >>= fun one =>
    (m_law_end side (x2 + 1) [b.1, b.2]) >>= fun other =>
    ((if cl = true then pure (decide (x2 = (n : Int) - 1)) else pure false) >>= fun c3 => if c3 = true then (
    (m_law_end side 0 [b.1, b.2]) >>= fun other =>
    pure other)
    else (
    pure other)) >>= fun s4 =>
    (pure (decide (one.1 = 0))) >>= fun c5 => if c5 = true then (
    (pure (one.2, s4.2)) >>= fun a6 => appO s1 a6 >>= fun edges =>
    pure edges)
    else (
    (pure (s4.2, one.2)) >>= fun a7 => appO s1 a7 >>= fun edges =>
    pure edges))
    (fun i es => es.length = i ∧ ∀ (o : Nat) e, es[o]? = some e → ∀ s, (s = 0 ∨ s = 1) → cm e s = bs b s + vx cl n side o s / 2) (upto n) [] ⟨rfl, fun o e h => by simp at h⟩ (fun i es x hx ⟨hl, ha⟩ => by
      obtain ⟨rfl, hi⟩ := upto_at hx
      rw [end_ok hs (by omega), pbind, end_ok hs (by omega), pbind]
      have hif : ((if cl = true then pure (decide ((i : Int) = (n : Int) - 1)) else pure false) >>= fun c3 => if c3 = true then (m_law_end side 0 [b.1, b.2]) >>= fun other => pure other else (pure ((side + ((i : Int) + 1)) % 2, bs b ((side + ((i : Int) + 1)) % 2) + ((i : Int) + 1) / 2) : Out (Int × Int)))
          = pure (if cl = true ∧ (i : Int) + 1 = n then (side % 2, bs b (side % 2)) else ((side + ((i : Int) + 1)) % 2, bs b ((side + ((i : Int) + 1)) % 2) + ((i : Int) + 1) / 2)) := by
        by_cases c : cl = true
        · rw [if_pos c, pbind]
          by_cases d : (i : Int) + 1 = n
          · rw [if_pos (by simp; omega), if_pos ⟨c, d⟩, end_ok hs (by omega), pbind]
            simp
          · rw [if_neg (by simp; omega), if_neg (fun z => d z.2)]
        · rw [if_neg c, pbind, if_neg Bool.false_ne_true, if_neg (fun z => c z.1)]
      rw [hif, pbind, pbind]
      -- the new edge
      have grow : ∀ e : Int × Int, (∀ s, (s = 0 ∨ s = 1) → cm e s = bs b s + vx cl n side i s / 2) → ∃ s', appO es e = pure s' ∧ s'.length = i + 1 ∧ ∀ (o : Nat) e, s'[o]? = some e → ∀ s, (s = 0 ∨ s = 1) → cm e s = bs b s + vx cl n side o s / 2 := fun e he => by
        refine ⟨es ++ [e], appO_ok (by omega), by simp [hl], fun o e' ho s hs => ?_⟩
        by_cases c : o < es.length
        · rw [List.getElem?_append_left c] at ho
          exact ha o e' ho s hs
        · rw [List.getElem?_append_right (by omega)] at ho
          have ho2 := (List.getElem?_eq_some_iff.mp ho).1
          simp at ho2
          have : o = i := by omega
          subst this
          rw [hl, Nat.sub_self] at ho
          simp at ho
          subst ho
          exact he s hs
      have hpar : (side + (i : Int)) % 2 = 0 ∨ (side + (i : Int)) % 2 = 1 := by omega
      have hw : cl = true ∧ (i : Int) + 1 = n → side % 2 = (side + ((i : Int) + 1)) % 2 := fun ⟨c, d⟩ => by have := hc c; omega
      rcases hpar with hp | hp
      · have hq : (side + ((i : Int) + 1)) % 2 = 1 := by omega
        rw [hp, if_pos (by simp), pbind]
        obtain ⟨s', e1, e2, e3⟩ := grow (bs b 0 + (i : Int) / 2, (if cl = true ∧ (i : Int) + 1 = n then (side % 2, bs b (side % 2)) else ((side + ((i : Int) + 1)) % 2, bs b ((side + ((i : Int) + 1)) % 2) + ((i : Int) + 1) / 2)).2) (fun s hs => by
          unfold vx
          rcases hs with rfl | rfl
          · rw [if_pos hp]
            rfl
          · rw [if_neg (show ¬ ((side + (i : Int)) % 2 = 1) by omega)]
            by_cases c : cl = true ∧ (i : Int) + 1 = n
            · rw [if_pos c, if_pos c, hw c, hq]
              simp [cm]
            · rw [if_neg c, if_neg c, hq]
              rfl)
        exact ⟨s', by rw [e1, pbind], e2, e3⟩
      · have hq : (side + ((i : Int) + 1)) % 2 = 0 := by omega
        rw [hp, if_neg (by simp), pbind]
        obtain ⟨s', e1, e2, e3⟩ := grow ((if cl = true ∧ (i : Int) + 1 = n then (side % 2, bs b (side % 2)) else ((side + ((i : Int) + 1)) % 2, bs b ((side + ((i : Int) + 1)) % 2) + ((i : Int) + 1) / 2)).2, bs b 1 + (i : Int) / 2) (fun s hs => by
          unfold vx
          rcases hs with rfl | rfl
          · rw [if_neg (show ¬ ((side + (i : Int)) % 2 = 0) by omega)]
            by_cases c : cl = true ∧ (i : Int) + 1 = n
            · rw [if_pos c, if_pos c, hw c, hq]
              simp [cm]
            · rw [if_neg c, if_neg c, hq]
              rfl
          · rw [if_pos hp]
            rfl)
        exact ⟨s', by rw [e1, pbind], e2, e3⟩)
  rw [upto_len] at hl
  exact ⟨es, by rw [e, pbind], by rw [hl], ha⟩
theorem vx_lo {cl : Bool} {size side o s : Int} (h : 0 ≤ o) : 0 ≤ vx cl size side o s := by
  unfold vx
  split
  · omega
  · split <;> omega
theorem vx_hi {cl : Bool} {size side o s : Int} (h : 0 ≤ o) (h1 : o < size) : vx cl size side o s ≤ if cl = true then size - 1 else size := by
  unfold vx
  split
  · split <;> omega
  · split
    · split <;> omega
    · rename_i c
      by_cases d : cl = true
      · rw [if_pos d]
        have : o + 1 ≠ size := fun z => c ⟨d, z⟩
        omega
      · rw [if_neg d]
        omega
/-- the parity of a vertex -/
theorem vx_par {cl : Bool} {size side o s : Int} (hs : s = 0 ∨ s = 1) (hc : cl = true → size % 2 = 0) : (side + vx cl size side o s) % 2 = s % 2 := by
  unfold vx
  split
  · omega
  · split
    · rename_i c1 c2
      have := hc c2.1
      omega
    · omega

structure PartAt (r : Bool × List (Int × Int) × Int) (b c : Int × Int) (size side : Int) : Prop where
  sd : side = 0 ∨ side = 1
  pos : 1 ≤ size
  even : r.1 = true → size % 2 = 0 ∧ side = 0
  part : Part r.1 size side b r.2.1
  grow : ∀ s, (s = 0 ∨ s = 1) → bs b s ≤ bs c s ∧ bs c s ≤ bs b s + (if r.1 = true then size / 2 else size / 2 + 1) ∧ ∀ e ∈ r.2.1, bs b s ≤ cm e s ∧ cm e s < bs c s
theorem idx_cm {e : Int × Int} {s : Int} (hs : s = 0 ∨ s = 1) : idx [e.1, e.2] s = pure (cm e s) := by
  rcases hs with rfl | rfl <;> rfl
theorem maxL_ok {xs : List Int} (h : xs ≠ []) : ∃ m, maxL xs = pure m ∧ m ∈ xs ∧ ∀ y ∈ xs, y ≤ m := by
  cases xs with
  | nil => exact absurd rfl h
  | cons x l => exact ⟨_, rfl, (foldl_max l x).1, (foldl_max l x).2⟩
theorem minL_ok {xs : List Int} (h : xs ≠ []) : ∃ m, minL xs = pure m ∧ m ∈ xs ∧ ∀ y ∈ xs, m ≤ y := by
  cases xs with
  | nil => exact absurd rfl h
  | cons x l => exact ⟨_, rfl, (foldl_min l x).1, (foldl_min l x).2⟩
/-- the next bases -/
theorem bases_ok {cl : Bool} {size side hue : Int} {b : Int × Int} {es : List (Int × Int)} (hs : side = 0 ∨ side = 1) (h1 : 1 ≤ size) (hc : cl = true → size % 2 = 0 ∧ side = 0) (P : Part cl size side b es) :
    ∃ c : Int × Int, ((pure (upto 2)) >>= fun xs27 => mapO (fun side22 => ((mapO (fun edge23 => idx [edge23.1, edge23.2] side22) es) >>= fun t25 => maxL t25) >>= fun t26 => (pure (1 + t26) : Out Int)) xs27) = pure [c.1, c.2] ∧ PartAt (cl, es, hue) b c size side := by
  have hne : es ≠ [] := fun z => by have := P.len; rw [z] at this; simp at this; omega
  have mx : ∀ s, (s = 0 ∨ s = 1) → ∃ m, ((mapO (fun edge23 : Int × Int => idx [edge23.1, edge23.2] s) es) >>= fun t25 => maxL t25) = pure m ∧ (∃ e ∈ es, cm e s = m) ∧ ∀ e ∈ es, cm e s ≤ m := fun s hs => by
    rw [mapO_ok (g := fun e => cm e s) es fun e _ => idx_cm hs, pbind]
    obtain ⟨m, e1, e2, e3⟩ := maxL_ok (xs := es.map fun e => cm e s) (by simpa using hne)
    obtain ⟨e, he, hm⟩ := List.mem_map.mp e2
    exact ⟨m, e1, ⟨e, he, hm⟩, fun e' he' => e3 _ (List.mem_map.mpr ⟨e', he', rfl⟩)⟩
  have bd : ∀ s, (s = 0 ∨ s = 1) → ∀ e ∈ es, bs b s ≤ cm e s ∧ cm e s + 1 ≤ bs b s + (if cl = true then size / 2 else size / 2 + 1) := fun s hs' e he => by
    obtain ⟨o, ho⟩ := List.getElem?_of_mem he
    have hat := P.at_ o e ho s hs'
    have hlt : (o : Int) < size := by
      have := (List.getElem?_eq_some_iff.mp ho).1
      have := P.len
      omega
    have v0 := vx_lo (cl := cl) (size := size) (side := side) (s := s) (o := o) (by omega)
    have v1 := vx_hi (cl := cl) (side := side) (s := s) (by omega) hlt
    rw [hat]
    by_cases c : cl = true
    · rw [if_pos c] at v1 ⊢
      have := (hc c).1
      omega
    · rw [if_neg c] at v1 ⊢
      omega
  obtain ⟨m0, a0, ⟨e0, he0, hm0⟩, c0⟩ := mx 0 (.inl rfl)
  obtain ⟨m1, a1, ⟨e1, he1, hm1⟩, c1⟩ := mx 1 (.inr rfl)
  refine ⟨(1 + m0, 1 + m1), ?_, hs, h1, hc, P, fun s hs' => ?_⟩
  · rw [pbind, two_upto]
    unfold mapO
    rw [a0, pbind]
    unfold mapO
    rw [a1, pbind]
    rfl
  · rcases hs' with rfl | rfl
    · have q := bd 0 (.inl rfl) e0 he0
      refine ⟨?_, ?_, fun e he => ⟨(bd 0 (.inl rfl) e he).1, ?_⟩⟩
      · show bs b 0 ≤ 1 + m0
        omega
      · show 1 + m0 ≤ _
        show 1 + m0 ≤ bs b 0 + (if cl = true then size / 2 else size / 2 + 1)
        omega
      · show cm e 0 < 1 + m0
        have := c0 e he
        omega
    · have q := bd 1 (.inr rfl) e1 he1
      refine ⟨?_, ?_, fun e he => ⟨(bd 1 (.inr rfl) e he).1, ?_⟩⟩
      · show bs b 1 ≤ 1 + m1
        omega
      · show 1 + m1 ≤ bs b 1 + (if cl = true then size / 2 else size / 2 + 1)
        omega
      · show cm e 1 < 1 + m1
        have := c1 e he
        omega
structure Built (rows : List (Bool × List (Int × Int) × Int)) (β : Nat → Int × Int) : Prop where
  zero : β 0 = (0, 0)
  few : rows.length ≤ 9
  at_ : ∀ (j : Nat) r, rows[j]? = some r → ∃ size side, PartAt r (β j) (β (j + 1)) size side ∧ (if j = 0 then size ≤ 1800 else size ≤ 24 ∧ (r.1 = false → size ≤ 12))
/-- digits of a row -/
def Dig (L sizes : List Int) : Prop := L.length = sizes.length ∧ ∀ (i : Nat) d s, L[i]? = some d → sizes[i]? = some s → 0 ≤ d ∧ d < s
theorem Dig.get {L sizes : List Int} (h : Dig L sizes) (i : Nat) {s : Int} (hs : sizes[i]? = some s) : ∃ d, L[i]? = some d ∧ idx L (i : Int) = pure d ∧ 0 ≤ d ∧ d < s := by
  have hi : i < L.length := by rw [h.1]; exact (List.getElem?_eq_some_iff.mp hs).1
  have e := List.getElem?_eq_getElem hi
  exact ⟨L[i], e, idx_nat e, h.2 i _ s e hs⟩
theorem built_ok (ns : List Int) {row : List Int} (hrow : Dig row [10, 16, 16, 100000, 1000, 1000, 6, 3, 512, 100000]) : ∃ rows β, m_law_built ns row = pure rows ∧ Built rows β := by
  obtain ⟨d0, _, i0, a0, b0⟩ := hrow.get 0 (s := 10) rfl
  obtain ⟨d1, _, i1, a1, b1⟩ := hrow.get 1 (s := 16) rfl
  obtain ⟨d2, _, i2, a2, b2⟩ := hrow.get 2 (s := 16) rfl
  obtain ⟨cnt, hcnt, hc9⟩ : ∃ cnt : Nat, idx [6, 4, 7, 5, 8, 3, 9, 2, 1, 5] d0 = pure (cnt : Int) ∧ cnt ≤ 9 := by
    have : d0 = 0 ∨ d0 = 1 ∨ d0 = 2 ∨ d0 = 3 ∨ d0 = 4 ∨ d0 = 5 ∨ d0 = 6 ∨ d0 = 7 ∨ d0 = 8 ∨ d0 = 9 := by omega
    rcases this with h | h | h | h | h | h | h | h | h | h <;> subst h
    · exact ⟨6, rfl, by omega⟩
    · exact ⟨4, rfl, by omega⟩
    · exact ⟨7, rfl, by omega⟩
    · exact ⟨5, rfl, by omega⟩
    · exact ⟨8, rfl, by omega⟩
    · exact ⟨3, rfl, by omega⟩
    · exact ⟨9, rfl, by omega⟩
    · exact ⟨2, rfl, by omega⟩
    · exact ⟨1, rfl, by omega⟩
    · exact ⟨5, rfl, by omega⟩
  rw [m_law_built_eq]
  unfold b_law_built
  rw [pbind, pbind, show idx row 0 = pure d0 from i0, pbind, hcnt, pbind, rangeO_nat (by omega), pbind]
  obtain ⟨s', e, hl, β, hb0, hbs, hat⟩ := forO_inv0 (f := fun (s3 : (List Int) × (List (Bool × (List (Int × Int)) × Int))) (x4 : Int) =>
    ((m_law_cell ns (1 + x4)) >>= fun t5 => m_law_digits t5 [2, 12, 2, 2]) >>= fun part =>
    (((idx part 1) >>= fun t6 => pure (1 + t6)) >>= fun t8 => ((idx part 0) >>= fun t7 => pure (1 + t7)) >>= fun t9 => mulO t8 t9) >>= fun size =>
    ((if (decide (x4 = 0)) = true then (idx row 1) >>= fun t10 => pure (decide (t10 = 1)) else pure false) >>= fun c11 => if c11 = true then (
    (((idx row 2) >>= fun t13 => pure (100 * t13)) >>= fun t14 => pure (300 + t14)) >>= fun size =>
    pure size)
    else (
    pure size)) >>= fun s12 =>
    (((idx part 0) >>= fun t15 => pure (decide (t15 = 1))) >>= fun t20 => ((idx part 2) >>= fun t18 => (((idx part 0) >>= fun t16 => pure (decide (t16 = 0))) >>= fun t17 => pure (if t17 = true then 1 else 0)) >>= fun t19 => mulO t18 t19) >>= fun t21 => m_law_row_edges t20 s12 t21 s3.1) >>= fun edges =>
    ((pure (upto 2)) >>= fun xs27 => mapO (fun side22 => ((mapO (fun edge23 => idx [edge23.1, edge23.2] side22) edges) >>= fun t25 => maxL t25) >>= fun t26 => pure (1 + t26)) xs27) >>= fun bases =>
    (((idx part 0) >>= fun t28 => pure (decide (t28 = 1))) >>= fun t29 => (idx part 3) >>= fun t30 => pure (t29, edges, t30)) >>= fun a31 => appO s3.2 a31 >>= fun rows =>
    pure (bases, rows))
    (fun i s => s.2.length = i ∧ ∃ β : Nat → Int × Int, β 0 = (0, 0) ∧ s.1 = [(β i).1, (β i).2] ∧ ∀ (j : Nat) r, s.2[j]? = some r → ∃ size side, PartAt r (β j) (β (j + 1)) size side ∧ (if j = 0 then size ≤ 1800 else size ≤ 24 ∧ (r.1 = false → size ≤ 12)))
    (upto cnt) ([0, 0], []) ⟨rfl, fun _ => (0, 0), rfl, rfl, fun j r h => by simp at h⟩ (fun i s x hx ⟨hl, β, hb0, hbs, hat⟩ => by
      obtain ⟨rfl, hi⟩ := upto_at hx
      obtain ⟨c, hcell⟩ := cell_ok ns (1 + (i : Int)) (by omega) (by omega)
      obtain ⟨L, hL, hL2⟩ := digits_ok c [2, 12, 2, 2] (by decide) (by decide)
      have D : Dig L [2, 12, 2, 2] := hL2
      obtain ⟨p0, _, j0, q0, r0⟩ := D.get 0 (s := 2) rfl
      obtain ⟨p1, _, j1, q1, r1⟩ := D.get 1 (s := 12) rfl
      obtain ⟨p2, _, j2, q2, r2⟩ := D.get 2 (s := 2) rfl
      obtain ⟨p3, _, j3, q3, r3⟩ := D.get 3 (s := 2) rfl
      have j0' : idx L 0 = pure p0 := j0
      have j1' : idx L 1 = pure p1 := j1
      have j2' : idx L 2 = pure p2 := j2
      have j3' : idx L 3 = pure p3 := j3
      rw [hcell, pbind, hL, pbind, j0', j1', j2', j3', pbind, pbind, pbind, pbind, mulO_r (by omega) (by omega), pbind, show idx row 1 = pure d1 from i1, show idx row 2 = pure d2 from i2]
      -- the size
      obtain ⟨size, hsz, hs1, hs2, hs3⟩ : ∃ size : Int, ((if (decide ((i : Int) = 0)) = true then (pure d1 : Out Int) >>= fun t10 => pure (decide (t10 = 1)) else pure false) >>= fun c11 => if c11 = true then ((((pure d2 : Out Int) >>= fun t13 => pure (100 * t13)) >>= fun t14 => pure (300 + t14)) >>= fun size => pure size) else (pure ((1 + p1) * (1 + p0)) : Out Int)) = pure size ∧ 1 ≤ size ∧ (p0 = 1 → size % 2 = 0) ∧ (if i = 0 then size ≤ 1800 else size ≤ 24 ∧ (p0 ≠ 1 → size ≤ 12)) := by
        have small : 1 ≤ (1 + p1) * (1 + p0) ∧ (p0 = 1 → ((1 + p1) * (1 + p0)) % 2 = 0) ∧ (1 + p1) * (1 + p0) ≤ 24 ∧ (p0 ≠ 1 → (1 + p1) * (1 + p0) ≤ 12) := by
          have : p0 = 0 ∨ p0 = 1 := by omega
          rcases this with h | h <;> subst h <;> omega
        by_cases ci : i = 0
        · subst ci
          rw [if_pos (by simp), pbind, pbind]
          by_cases cd : d1 = 1
          · rw [if_pos (by simp [cd])]
            refine ⟨300 + 100 * d2, rfl, by omega, fun _ => by omega, ?_⟩
            rw [if_pos rfl]
            omega
          · rw [if_neg (by simp [cd])]
            refine ⟨_, rfl, small.1, small.2.1, ?_⟩
            rw [if_pos rfl]
            omega
        · rw [if_neg (by simp; omega), pbind, if_neg Bool.false_ne_true]
          refine ⟨_, rfl, small.1, small.2.1, ?_⟩
          rw [if_neg ci]
          exact ⟨small.2.2.1, small.2.2.2⟩
      rw [hsz, pbind, pbind, pbind, pbind, pbind, pbind, pbind, mulO_r (by split <;> omega) (by split <;> omega), pbind, hbs]
      have hside : p2 * (if decide (p0 = 0) = true then 1 else 0) = 0 ∨ p2 * (if decide (p0 = 0) = true then 1 else 0) = 1 := by
        split <;> omega
      have hcl : decide (p0 = 1) = true → size % 2 = 0 ∧ p2 * (if decide (p0 = 0) = true then 1 else 0) = 0 := fun h => by
        have h1 := of_decide_eq_true h
        refine ⟨hs2 h1, ?_⟩
        rw [if_neg (by simp; omega)]
        omega
      obtain ⟨es, hes, P⟩ := edges_ok (cl := decide (p0 = 1)) (b := β i) hside hs1 (by split at hs3 <;> omega) (fun h => (hcl h).1)
      rw [hes, pbind]
      obtain ⟨cc, hbb, PA⟩ := bases_ok (hue := p3) hside hs1 hcl P
      rw [hbb, pbind, pbind, pbind, pbind, appO_ok (by omega), pbind]
      refine ⟨_, rfl, by simp [hl], fun j => if j = i + 1 then cc else β j, by simp [hb0], by simp, fun j r hj => ?_⟩
      by_cases cj : j < s.2.length
      · rw [List.getElem?_append_left cj] at hj
        obtain ⟨size', side', A, B⟩ := hat j r hj
        refine ⟨size', side', ?_, B⟩
        show PartAt r (if j = i + 1 then cc else β j) (if j + 1 = i + 1 then cc else β (j + 1)) size' side'
        rw [if_neg (by omega), if_neg (by omega)]
        exact A
      · rw [List.getElem?_append_right (by omega)] at hj
        have hj2 := (List.getElem?_eq_some_iff.mp hj).1
        simp at hj2
        have ej : j = i := by omega
        subst ej
        rw [hl, Nat.sub_self] at hj
        simp at hj
        subst hj
        refine ⟨size, p2 * (if decide (p0 = 0) = true then 1 else 0), ?_, ?_⟩
        · show PartAt _ (if j = j + 1 then cc else β j) (if j + 1 = j + 1 then cc else β (j + 1)) size _
          rw [if_neg (by omega), if_pos rfl]
          exact PA
        · by_cases c0 : j = 0
          · rw [if_pos c0] at hs3 ⊢
            exact hs3
          · rw [if_neg c0] at hs3 ⊢
            exact ⟨hs3.1, fun h => hs3.2 (by simpa using h)⟩)
  rw [upto_len] at hl
  exact ⟨s'.2, β, by rw [e, pbind], hb0, by omega, hat⟩

/-! ### the parts mixed -/
structure Mix (ends E : List (Int × Int)) (pl : List Int) (a0 a1 st : Int) : Prop where
  lenE : E.length = ends.length
  perm : pl.Perm (upto ends.length)
  at_ : ∀ (k : Nat) e p, ends[k]? = some e → pl[k]? = some p → E[p.toNat]? = some ((a0 + e.1 * st) % 1000, (a1 + e.2 * st) % 1000)
  step : st = 1 ∨ st = 7 ∨ st = 999 ∨ st = 333 ∨ st = 77 ∨ st = 501
theorem number_ok {base step st index : Int} (h : idx [1, 7, 999, 333, 77, 501] step = pure st) (h1 : 0 < st) (h2 : st < 1000) : m_law_number base step index = pure ((base + index * st) % 1000) := by
  rw [m_law_number_eq]
  unfold b_law_number
  rw [h, pbind, mulO_r (by omega) (by omega), pbind, pbind, pbind]
theorem step_ok {s : Int} (h0 : 0 ≤ s) (h1 : s < 6) : ∃ st : Int, idx [1, 7, 999, 333, 77, 501] s = pure st ∧ (st = 1 ∨ st = 7 ∨ st = 999 ∨ st = 333 ∨ st = 77 ∨ st = 501) := by
  have : s = 0 ∨ s = 1 ∨ s = 2 ∨ s = 3 ∨ s = 4 ∨ s = 5 := by omega
  rcases this with h | h | h | h | h | h <;> subst h
  · exact ⟨1, rfl, by omega⟩
  · exact ⟨7, rfl, by omega⟩
  · exact ⟨999, rfl, by omega⟩
  · exact ⟨333, rfl, by omega⟩
  · exact ⟨77, rfl, by omega⟩
  · exact ⟨501, rfl, by omega⟩
theorem ends_in (x : Bool × List (Int × Int) × Int) (r : Int) (ends0 : List (Int × Int)) (hues0 : List Int) (hl : ends0.length + x.2.1.length < 16777216) (hh : hues0.length = ends0.length) :
    ∃ hues', forO (fun (s3 : (List (Int × Int)) × (List Int)) (x4 : Int) =>
      (idx x.2.1 x4) >>= fun a5 => appO s3.1 a5 >>= fun ends =>
      (pure (((x.2.2 + x4) + r) % 2)) >>= fun a6 => appO s3.2 a6 >>= fun hues =>
      pure (ends, hues)) (upto x.2.1.length) (ends0, hues0) = pure (ends0 ++ x.2.1, hues') ∧ hues'.length = (ends0 ++ x.2.1).length := by
  obtain ⟨s', e, h1, h2⟩ := forO_inv0 (f := fun (s3 : (List (Int × Int)) × (List Int)) (x4 : Int) =>
      (idx x.2.1 x4) >>= fun a5 => appO s3.1 a5 >>= fun ends =>
      (pure (((x.2.2 + x4) + r) % 2)) >>= fun a6 => appO s3.2 a6 >>= fun hues =>
      pure (ends, hues)) (fun i s => s.1 = ends0 ++ x.2.1.take i ∧ s.2.length = s.1.length) (upto x.2.1.length) (ends0, hues0) ⟨by simp, hh⟩ (fun i s y hy ⟨g1, g2⟩ => by
      obtain ⟨rfl, hi⟩ := upto_at hy
      have hz : x.2.1[i]? = some x.2.1[i] := List.getElem?_eq_getElem hi
      have hlen : s.1.length < 16777216 := by rw [g1, List.length_append, List.length_take]; omega
      rw [idx_nat hz, pbind, appO_ok hlen, pbind, pbind, appO_ok (by omega), pbind]
      refine ⟨_, rfl, ?_, by simp [g2]⟩
      show s.1 ++ [x.2.1[i]] = _
      rw [g1, List.append_assoc, List.take_add_one, hz]
      rfl)
  rw [upto_len, List.take_of_length_le (Nat.le_refl _)] at h1
  refine ⟨s'.2, ?_, by rw [h2, h1]⟩
  rw [e, ← h1]
theorem take_flat {α β : Type} (f : α → List β) (xs : List α) (i : Nat) (x : α) (h : xs[i]? = some x) : (xs.take (i + 1)).flatMap f = (xs.take i).flatMap f ++ f x := by
  rw [List.take_add_one, h]
  simp [List.flatMap_append]
theorem take_flat_le {α β : Type} (f : α → List β) (xs : List α) (i : Nat) : ((xs.take i).flatMap f).length ≤ (xs.flatMap f).length := by
  conv => rhs; rw [← List.take_append_drop i xs]
  rw [List.flatMap_append, List.length_append]
  omega
/-- the key of k -/
def kf (factor k : Int) : Int := ((k + 1) * factor) % 1000003 * 4096 + k
theorem kf_mod {factor k : Int} (h0 : 0 ≤ k) (h1 : k < 4096) : kf factor k % 4096 = k := by
  unfold kf
  omega
theorem mixed_ok {rows : List (Bool × List (Int × Int) × Int)} {row : List Int} {factor mask : Int} (hrow : Dig row [10, 16, 16, 100000, 1000, 1000, 6, 3, 512, 100000]) (hN : (rows.flatMap fun r => r.2.1).length < 4096) :
    ∃ E H pl a0 a1 st, m_law_mixed rows row factor mask = pure (E, H, pl) ∧ Mix (rows.flatMap fun r => r.2.1) E pl a0 a1 st := by
  obtain ⟨d4, _, i4, _⟩ := hrow.get 4 (s := 1000) rfl
  obtain ⟨d5, _, i5, _⟩ := hrow.get 5 (s := 1000) rfl
  obtain ⟨d6, _, i6, a6, b6⟩ := hrow.get 6 (s := 6) rfl
  obtain ⟨d7, _, i7, a7, b7⟩ := hrow.get 7 (s := 3) rfl
  have i4' : idx row 4 = pure d4 := i4
  have i5' : idx row 5 = pure d5 := i5
  have i6' : idx row 6 = pure d6 := i6
  have i7' : idx row 7 = pure d7 := i7
  obtain ⟨st, hst, hstep⟩ := step_ok a6 b6
  obtain ⟨a1, ha1⟩ : ∃ a1, idx [d4, d5, d5] d7 = pure a1 := (idx_lt a7 (by simpa using b7)).imp fun a h => h.1
  rw [m_law_mixed_eq]
  unfold b_law_mixed
  rw [pbind, pbind, pbind, pbind]
  -- the ends
  obtain ⟨s1, e1, h1, h2⟩ := forO_inv0 (f := fun (s1 : Int × (List (Int × Int)) × (List Int)) (x2 : Bool × (List (Int × Int)) × Int) =>
    ((pure (upto x2.2.1.length)) >>= fun xs7 => forO (fun (s3 : (List (Int × Int)) × (List Int)) (x4 : Int) =>
    (idx x2.2.1 x4) >>= fun a5 => appO s3.1 a5 >>= fun ends =>
    (pure (((x2.2.2 + x4) + s1.1) % 2)) >>= fun a6 => appO s3.2 a6 >>= fun hues =>
    pure (ends, hues)) xs7 (s1.2.1, s1.2.2)) >>= fun s8 =>
    (pure (s1.1 / 2)) >>= fun rest =>
    pure (rest, s8.1, s8.2)) (fun i s => s.2.1 = (rows.take i).flatMap (fun r => r.2.1) ∧ s.2.2.length = s.2.1.length) rows (mask, [], []) ⟨by simp, rfl⟩ (fun i s x hx ⟨g1, g2⟩ => by
      have hle := take_flat_le (fun r : Bool × List (Int × Int) × Int => r.2.1) rows (i + 1)
      rw [take_flat _ rows i x hx, List.length_append, ← g1] at hle
      obtain ⟨hues', e, hl⟩ := ends_in x s.1 s.2.1 s.2.2 (by omega) g2
      rw [pbind, e, pbind, pbind]
      exact ⟨_, rfl, by rw [take_flat _ rows i x hx, ← g1], hl⟩)
  rw [List.take_of_length_le (Nat.le_refl _)] at h1
  rw [e1, pbind, h1]
  rw [h1] at h2
  generalize hends : (rows.flatMap fun r => r.2.1) = ends at *
  -- the keys
  rw [mapO_ok (g := fun k => kf factor k) (upto ends.length) fun k hk => by
    obtain ⟨k0, k1⟩ := upto_mem.mp hk
    have : mulO (k + 1) factor = pure ((k + 1) * factor) := if_pos (.inl ⟨by omega, by omega⟩)
    rw [this]
    rfl, pbind, pbind, pbind, repO_nat (by omega), pbind, pbind]
  generalize hK : sortI ((upto ends.length).map fun k => kf factor k) = keys
  have hperm : keys.Perm ((upto ends.length).map fun k => kf factor k) := by rw [← hK]; exact sortI_perm _
  have hklen : keys.length = ends.length := by rw [hperm.length_eq, List.length_map, upto_len]
  have hko : (keys.map fun k => k % 4096).Perm (upto ends.length) := by
    have := hperm.map fun k => k % 4096
    rw [List.map_map] at this
    refine this.trans (List.Perm.of_eq ?_)
    conv => rhs; rw [← List.map_id (upto ends.length)]
    refine List.map_congr_left fun k hk => ?_
    obtain ⟨k0, k1⟩ := upto_mem.mp hk
    exact kf_mod k0 (by omega)
  have hnd : (keys.map fun k => k % 4096).Nodup := by
    rw [hko.nodup_iff]
    unfold upto
    rw [List.nodup_iff_pairwise_ne, List.pairwise_map]
    exact List.pairwise_lt_range.imp fun h => by omega
  have hkin : ∀ (j : Nat) key, keys[j]? = some key → 0 ≤ key % 4096 ∧ key % 4096 < ends.length := fun j key hj => by
    have : key % 4096 ∈ upto ends.length := hko.mem_iff.mp (List.mem_map.mpr ⟨key, List.mem_of_getElem? hj, rfl⟩)
    exact upto_mem.mp this
  have st0 : 0 < st ∧ st < 1000 := by omega
  obtain ⟨s2, e2, g1, g2, g3⟩ := forO_inv0 (f := fun (s18 : (List (Int × Int)) × (List Int)) (x19 : Int) =>
    (pure (x19 % 4096)) >>= fun k =>
    (pure (s18.1.length : Int)) >>= fun a20 => (pure k) >>= fun j21 => setO s18.2 j21 a20 >>= fun places =>
    (((idx row 4) >>= fun t22 => (idx row 5) >>= fun t23 => (idx row 5) >>= fun t24 => pure [t22, t23, t24]) >>= fun t25 => (idx row 7) >>= fun t26 => idx t25 t26) >>= fun base =>
    (((idx row 4) >>= fun t28 => (idx row 6) >>= fun t29 => ((idx ends k) >>= fun t27 => pure t27.1) >>= fun t30 => m_law_number t28 t29 t30) >>= fun t34 => ((idx row 6) >>= fun t32 => ((idx ends k) >>= fun t31 => pure t31.2) >>= fun t33 => m_law_number base t32 t33) >>= fun t35 => pure (t34, t35)) >>= fun a36 => appO s18.1 a36 >>= fun edges =>
    pure (edges, places))
    (fun i s => s.1.length = i ∧ s.2.length = ends.length ∧ ∀ (j : Nat) key, j < i → keys[j]? = some key → s.2[(key % 4096).toNat]? = some (j : Int) ∧ ∀ e, ends[(key % 4096).toNat]? = some e → s.1[j]? = some ((d4 + e.1 * st) % 1000, (a1 + e.2 * st) % 1000))
    keys ([], List.replicate ends.length 0) ⟨rfl, by simp, fun j key h => by omega⟩ (fun i s x hx ⟨g1, g2, g3⟩ => by
      obtain ⟨k0, k1⟩ := hkin i x hx
      have hcast : ((x % 4096).toNat : Int) = x % 4096 := Int.toNat_of_nonneg k0
      have hkn : (x % 4096).toNat < ends.length := by omega
      have he : ends[(x % 4096).toNat]? = some ends[(x % 4096).toNat] := List.getElem?_eq_getElem hkn
      have hset : setO s.2 (x % 4096) (s.1.length : Int) = pure (s.2.set (x % 4096).toNat (s.1.length : Int)) := by
        have := setO_nat (xs := s.2) (k := (x % 4096).toNat) (x := (s.1.length : Int)) (by omega)
        rwa [hcast] at this
      have hi : i < 4096 := by
        have := (List.getElem?_eq_some_iff.mp hx).1
        omega
      rw [pbind, pbind, pbind, hset, pbind, i4', i5', i6', i7', pbind, pbind, pbind, pbind, pbind, ha1, pbind, pbind, pbind, idx_int k0 he, pbind, pbind, number_ok hst st0.1 st0.2, pbind, pbind, pbind, pbind, number_ok hst st0.1 st0.2, pbind, pbind, appO_ok (by omega), pbind]
      refine ⟨_, rfl, by simp [g1], by simp [g2], fun j key hj hk => ?_⟩
      by_cases c : j < i
      · obtain ⟨q1, q2⟩ := g3 j key c hk
        have hne : (x % 4096).toNat ≠ (key % 4096).toNat := fun z => by
          have hkj := hkin j key hk
          have z' : x % 4096 = key % 4096 := by omega
          have e1 : (keys.map fun k => k % 4096)[j]? = some (key % 4096) := by rw [List.getElem?_map, hk]; rfl
          have e2 : (keys.map fun k => k % 4096)[i]? = some (x % 4096) := by rw [List.getElem?_map, hx]; rfl
          have hj' := (List.getElem?_eq_some_iff.mp e1).1
          have e3 : (keys.map fun k => k % 4096)[j]? = (keys.map fun k => k % 4096)[i]? := e1.trans ((congrArg some z'.symm).trans e2.symm)
          have e4 : j = i := by first | exact List.getElem?_inj hj' hnd e3 | exact (List.getElem?_inj hj' hnd).mp e3
          omega
        refine ⟨?_, fun e he => ?_⟩
        · rw [List.getElem?_set_ne hne]
          exact q1
        · rw [List.getElem?_append_left (by omega)]
          exact q2 e he
      · have : j = i := by omega
        subst this
        rw [hx] at hk
        cases hk
        refine ⟨?_, fun e he' => ?_⟩
        · rw [List.getElem?_set_self (by omega), g1]
        · rw [he] at he'
          cases he'
          rw [List.getElem?_append_right (by omega), g1, Nat.sub_self]
          rfl)
  rw [e2, pbind]
  obtain ⟨H, hH, _⟩ := mapO_ex (f := fun key39 => idx s1.2.2 (key39 % 4096)) keys (fun key hk => by
    obtain ⟨j, hj⟩ := List.getElem?_of_mem hk
    obtain ⟨k0, k1⟩ := hkin j key hj
    obtain ⟨a, ha, _⟩ := idx_lt (xs := s1.2.2) k0 (by rw [h2]; exact k1)
    exact ⟨a, ha⟩)
  rw [hH, pbind]
  refine ⟨s2.1, H, s2.2, d4, a1, st, rfl, by rw [g1, hklen], ?_, fun k e p hk hp => ?_, hstep⟩
  · have m1 : (keys.map fun k => k % 4096).map (fun k => (s2.2[k.toNat]?).getD 0) = upto ends.length := by
      refine List.ext_getElem? fun j => ?_
      rw [List.map_map, List.getElem?_map]
      by_cases c : j < keys.length
      · rw [List.getElem?_eq_getElem c]
        have := (g3 j keys[j] c (List.getElem?_eq_getElem c)).1
        show some ((s2.2[(keys[j] % 4096).toNat]?).getD 0) = _
        rw [this, upto_get (by omega)]
        rfl
      · rw [List.getElem?_eq_none (by omega), List.getElem?_eq_none (by rw [upto_len]; omega)]
        rfl
    have m2 : (upto ends.length).map (fun k => (s2.2[k.toNat]?).getD 0) = s2.2 := by
      refine List.ext_getElem? fun j => ?_
      rw [List.getElem?_map]
      by_cases c : j < ends.length
      · rw [upto_get c]
        show some ((s2.2[(j : Int).toNat]?).getD 0) = _
        rw [Int.toNat_natCast, List.getElem?_eq_getElem (by omega)]
        rfl
      · rw [List.getElem?_eq_none (by rw [upto_len]; omega), List.getElem?_eq_none (by omega)]
        rfl
    have := hko.map fun k => (s2.2[k.toNat]?).getD 0
    rw [m1, m2] at this
    exact this.symm
  · have hkn := (List.getElem?_eq_some_iff.mp hk).1
    have hmem : (k : Int) ∈ keys.map fun k => k % 4096 := hko.mem_iff.mpr (upto_mem.mpr ⟨by omega, by omega⟩)
    obtain ⟨key, hkey, hmod⟩ := List.mem_map.mp hmem
    obtain ⟨j, hj⟩ := List.getElem?_of_mem hkey
    have hjl := (List.getElem?_eq_some_iff.mp hj).1
    obtain ⟨q1, q2⟩ := g3 j key hjl hj
    rw [hmod, Int.toNat_natCast] at q1 q2
    rw [hp] at q1
    cases q1
    rw [Int.toNat_natCast]
    exact q2 e hk

/-! ### where an edge lies -/
theorem sub_perm {α : Type} [DecidableEq α] : ∀ {l m : List α}, l.Nodup → (∀ x ∈ l, x ∈ m) → m.length ≤ l.length → l.Perm m
  | [], m, _, _, h => by
    have : m = [] := List.length_eq_zero_iff.mp (by simpa using h)
    rw [this]
  | a :: t, m, hn, hs, hl => by
    obtain ⟨h1, h2⟩ := List.nodup_cons.mp hn
    have ha : a ∈ m := hs a (by simp)
    have p := List.perm_cons_erase ha
    have hlen := p.length_eq
    simp only [List.length_cons] at hl hlen
    have ih := sub_perm (l := t) (m := m.erase a) h2 (fun x hx => by
      have := p.mem_iff.mp (hs x (by simp [hx]))
      rcases List.mem_cons.mp this with z | z
      · subst z; exact absurd hx h1
      · exact z) (by omega)
    exact (ih.cons a).trans p.symm
theorem jn_of {T : List (List Int)} : ∀ {c : List Int} {t : Int}, c ≠ [] → (t = 0 ∨ t = 1) → (∀ (k : Nat) a b, c[k]? = some a → c[k + 1]? = some b → ndT T b ((t + k) % 2) = ndT T a ((t + k) % 2)) → Jn T t c
  | [], t, h, _, _ => absurd rfl h
  | [p], t, _, _, _ => .one
  | p :: q :: r, t, _, ht, h => by
    refine .cons ?_ (jn_of (by simp) (side_flip ht) fun k a b ha hb => ?_)
    · have := h 0 p q rfl rfl
      rw [show (t + ((0 : Nat) : Int)) % 2 = t by omega] at this
      exact this
    · have := h (k + 1) a b (by simpa using ha) (by simpa using hb)
      rw [show (t + ((k + 1 : Nat) : Int)) % 2 = (1 - t + k) % 2 by omega] at this
      exact this
theorem lastS_of : ∀ {c : List Int} {t : Int}, c ≠ [] → (t = 0 ∨ t = 1) → lastS t c = (t + (c.length : Int) - 1) % 2
  | [], t, h, _ => absurd rfl h
  | [p], t, _, ht => by
    show t = _
    simp
    omega
  | p :: q :: r, t, _, ht => by
    show lastS (1 - t) (q :: r) = _
    rw [lastS_of (by simp) (side_flip ht)]
    simp only [List.length_cons]
    omega
abbrev esOf (rows : List (Bool × List (Int × Int) × Int)) : List (Int × Int) := rows.flatMap fun r => r.2.1
abbrev startOf (rows : List (Bool × List (Int × Int) × Int)) (j : Nat) : Nat := (esOf (rows.take j)).length
theorem loc_of {rows : List (Bool × List (Int × Int) × Int)} {j o : Nat} {r : Bool × List (Int × Int) × Int} {e : Int × Int} (hr : rows[j]? = some r) (he : r.2.1[o]? = some e) : (esOf rows)[startOf rows j + o]? = some e := by
  have hj := (List.getElem?_eq_some_iff.mp hr).1
  have h1 : esOf rows = esOf (rows.take j) ++ (r.2.1 ++ esOf (rows.drop (j + 1))) := by
    conv => lhs; rw [← List.take_append_drop j rows, List.drop_eq_getElem_cons hj]
    unfold esOf
    rw [List.flatMap_append, List.flatMap_cons]
    have : rows[j] = r := by
      rw [List.getElem?_eq_getElem hj] at hr
      exact Option.some.inj hr
    rw [this]
  rw [h1, List.getElem?_append_right (by unfold startOf; omega)]
  have ho := (List.getElem?_eq_some_iff.mp he).1
  rw [show startOf rows j + o - (esOf (rows.take j)).length = o by unfold startOf; omega, List.getElem?_append_left ho]
  exact he
theorem loc_ex : ∀ {rows : List (Bool × List (Int × Int) × Int)} {k : Nat} {e : Int × Int}, (esOf rows)[k]? = some e → ∃ (j o : Nat) (r : Bool × List (Int × Int) × Int), rows[j]? = some r ∧ r.2.1[o]? = some e ∧ k = startOf rows j + o
  | [], k, e, h => by simp [esOf] at h
  | r :: rows, k, e, h => by
    have h1 : esOf (r :: rows) = r.2.1 ++ esOf rows := by simp [esOf]
    rw [h1] at h
    by_cases c : k < r.2.1.length
    · rw [List.getElem?_append_left c] at h
      exact ⟨0, k, r, rfl, h, by simp [startOf, esOf]⟩
    · rw [List.getElem?_append_right (by omega)] at h
      obtain ⟨j, o, r', h2, h3, h4⟩ := loc_ex h
      refine ⟨j + 1, o, r', by simpa using h2, h3, ?_⟩
      have : startOf (r :: rows) (j + 1) = r.2.1.length + startOf rows j := by
        unfold startOf esOf
        rw [List.take_succ_cons, List.flatMap_cons, List.length_append]
      omega
theorem Built.mono {rows : List (Bool × List (Int × Int) × Int)} {β : Nat → Int × Int} (B : Built rows β) {s : Int} (hs : s = 0 ∨ s = 1) {i : Nat} : ∀ (n : Nat), i + n ≤ rows.length → bs (β i) s ≤ bs (β (i + n)) s
  | 0, _ => Int.le_refl _
  | n + 1, h => by
    have hj : i + n < rows.length := by omega
    obtain ⟨size, side, P, _⟩ := B.at_ (i + n) rows[i + n] (List.getElem?_eq_getElem hj)
    have h1 := (P.grow s hs).1
    have h2 := B.mono hs (i := i) n (by omega)
    rw [show i + (n + 1) = i + n + 1 by omega]
    omega
/-- two edges at one node -/
theorem Built.same {rows : List (Bool × List (Int × Int) × Int)} {β : Nat → Int × Int} (B : Built rows β) {j j' o o' : Nat} {r r' : Bool × List (Int × Int) × Int} {e e' : Int × Int} {s : Int} (hs : s = 0 ∨ s = 1)
    (hr : rows[j]? = some r) (hr' : rows[j']? = some r') (he : r.2.1[o]? = some e) (he' : r'.2.1[o']? = some e') (h : cm e s = cm e' s) : j = j' := by
  obtain ⟨size, side, P, _⟩ := B.at_ j r hr
  obtain ⟨size', side', P', _⟩ := B.at_ j' r' hr'
  have g1 := (P.grow s hs).2.2 e (List.mem_of_getElem? he)
  have g2 := (P'.grow s hs).2.2 e' (List.mem_of_getElem? he')
  have hj := (List.getElem?_eq_some_iff.mp hr).1
  have hj' := (List.getElem?_eq_some_iff.mp hr').1
  rcases Nat.lt_trichotomy j j' with c | c | c
  · have := B.mono hs (i := j + 1) (j' - (j + 1)) (by omega)
    rw [show j + 1 + (j' - (j + 1)) = j' by omega] at this
    omega
  · exact c
  · have := B.mono hs (i := j' + 1) (j - (j' + 1)) (by omega)
    rw [show j' + 1 + (j - (j' + 1)) = j by omega] at this
    omega
theorem PartAt.node {r : Bool × List (Int × Int) × Int} {b c : Int × Int} {size side : Int} (P : PartAt r b c size side) {o o' : Nat} {e e' : Int × Int} {s : Int} (hs : s = 0 ∨ s = 1) (he : r.2.1[o]? = some e) (he' : r.2.1[o']? = some e') :
    cm e s = cm e' s ↔ vx r.1 size side o s = vx r.1 size side o' s := by
  rw [P.part.at_ o e he s hs, P.part.at_ o' e' he' s hs]
  have h1 := vx_par (cl := r.1) (size := size) (side := side) (o := o) hs (fun h => (P.even h).1)
  have h2 := vx_par (cl := r.1) (size := size) (side := side) (o := o') hs (fun h => (P.even h).1)
  constructor
  · intro h
    omega
  · intro h
    rw [h]
theorem PartAt.lt {r : Bool × List (Int × Int) × Int} {b c : Int × Int} {size side : Int} (P : PartAt r b c size side) {o : Nat} {e : Int × Int} (he : r.2.1[o]? = some e) : (o : Int) < size := by
  have := (List.getElem?_eq_some_iff.mp he).1
  have := P.part.len
  omega
theorem vx_two {cl : Bool} {size side o1 o2 o3 s : Int} (p1 : 0 ≤ o1 ∧ o1 < size) (p2 : 0 ≤ o2 ∧ o2 < size) (p3 : 0 ≤ o3 ∧ o3 < size) (h1 : vx cl size side o1 s = vx cl size side o2 s) (h2 : vx cl size side o2 s = vx cl size side o3 s) : o1 = o2 ∨ o2 = o3 ∨ o1 = o3 := by
  have key : ∀ o, 0 ≤ o → o < size → (vx cl size side o s = o ∧ (side + o) % 2 = s) ∨ (vx cl size side o s = 0 ∧ o + 1 = size) ∨ vx cl size side o s = o + 1 := fun o h0 h1 => by
    unfold vx
    by_cases c : (side + o) % 2 = s
    · rw [if_pos c]; exact .inl ⟨rfl, c⟩
    · rw [if_neg c]
      by_cases d : cl = true ∧ o + 1 = size
      · rw [if_pos d]; exact .inr (.inl ⟨rfl, d.2⟩)
      · rw [if_neg d]; exact .inr (.inr rfl)
  rcases key o1 p1.1 p1.2 with a | a | a <;> rcases key o2 p2.1 p2.2 with b | b | b <;> rcases key o3 p3.1 p3.2 with c | c | c <;> omega

/-! ### the numbers tell the nodes apart -/
theorem Built.bound {rows : List (Bool × List (Int × Int) × Int)} {β : Nat → Int × Int} (B : Built rows β) {s : Int} (hs : s = 0 ∨ s = 1) : ∀ i : Nat, i < rows.length → bs (β (i + 1)) s ≤ 901 + 12 * i
  | 0, h => by
    obtain ⟨size, side, P, hz⟩ := B.at_ 0 rows[0] (List.getElem?_eq_getElem h)
    have h1 := (P.grow s hs).2.1
    rw [if_pos rfl] at hz
    have h0 : bs (β 0) s = 0 := by
      rw [B.zero]
      rcases hs with rfl | rfl <;> rfl
    have := P.pos
    by_cases c : (rows[0]).1 = true
    · rw [if_pos c] at h1; omega
    · rw [if_neg c] at h1; omega
  | i + 1, h => by
    have ih := B.bound hs i (by omega)
    obtain ⟨size, side, P, hz⟩ := B.at_ (i + 1) rows[i + 1] (List.getElem?_eq_getElem h)
    have h1 := (P.grow s hs).2.1
    rw [if_neg (by omega)] at hz
    have := P.pos
    by_cases c : (rows[i + 1]).1 = true
    · rw [if_pos c] at h1; omega
    · rw [if_neg c] at h1
      have := hz.2 (by simpa using c)
      omega
theorem Built.inside {rows : List (Bool × List (Int × Int) × Int)} {β : Nat → Int × Int} (B : Built rows β) {s : Int} (hs : s = 0 ∨ s = 1) {k : Nat} {e : Int × Int} (h : (esOf rows)[k]? = some e) : 0 ≤ cm e s ∧ cm e s < 1000 := by
  obtain ⟨j, o, r, hr, he, _⟩ := loc_ex h
  obtain ⟨size, side, P, _⟩ := B.at_ j r hr
  have hj := (List.getElem?_eq_some_iff.mp hr).1
  have g := (P.grow s hs).2.2 e (List.mem_of_getElem? he)
  have h0 : bs (β 0) s = 0 := by
    rw [B.zero]
    rcases hs with rfl | rfl <;> rfl
  have h1 := B.mono hs (i := 0) j (by omega)
  rw [Nat.zero_add] at h1
  have h2 := B.bound hs j hj
  have := B.few
  omega
theorem start_succ {rows : List (Bool × List (Int × Int) × Int)} {j : Nat} {r : Bool × List (Int × Int) × Int} (hr : rows[j]? = some r) : startOf rows (j + 1) = startOf rows j + r.2.1.length := by
  unfold startOf esOf
  rw [take_flat _ rows j r hr, List.length_append]
theorem Built.count {rows : List (Bool × List (Int × Int) × Int)} {β : Nat → Int × Int} (B : Built rows β) : (esOf rows).length ≤ 1992 := by
  have key : ∀ i : Nat, i < rows.length → startOf rows (i + 1) ≤ 1800 + 24 * i := fun i => by
    induction i with
    | zero =>
      intro h
      obtain ⟨size, side, P, hz⟩ := B.at_ 0 rows[0] (List.getElem?_eq_getElem h)
      rw [start_succ (List.getElem?_eq_getElem h)]
      rw [if_pos rfl] at hz
      have := P.part.len
      have : startOf rows 0 = 0 := by simp [startOf, esOf]
      omega
    | succ i ih =>
      intro h
      have := ih (by omega)
      obtain ⟨size, side, P, hz⟩ := B.at_ (i + 1) rows[i + 1] (List.getElem?_eq_getElem h)
      rw [start_succ (List.getElem?_eq_getElem h)]
      rw [if_neg (by omega)] at hz
      have := P.part.len
      omega
  have hf := B.few
  by_cases c : rows.length = 0
  · have : rows = [] := List.length_eq_zero_iff.mp c
    subst this
    simp [esOf]
  · have := key (rows.length - 1) (by omega)
    rw [show rows.length - 1 + 1 = rows.length by omega] at this
    unfold startOf at this
    rw [List.take_of_length_le (Nat.le_refl _)] at this
    omega
structure Fit (T : List (List Int)) (rows : List (Bool × List (Int × Int) × Int)) (pl : List Int) (ex : Int) : Prop where
  wf : Wf T
  len : T.length = (esOf rows).length
  small : T.length < 3000
  perm : pl.Perm (upto T.length)
  eq : ∀ (k k' : Nat) e e' p p', (esOf rows)[k]? = some e → (esOf rows)[k']? = some e' → pl[k]? = some p → pl[k']? = some p' → ∀ s, (s = 0 ∨ s = 1) → (ndT T p s = ndT T p' s ↔ cm e ((s + ex) % 2) = cm e' ((s + ex) % 2))
theorem num_inj {a st x y : Int} (hst : st = 1 ∨ st = 7 ∨ st = 999 ∨ st = 333 ∨ st = 77 ∨ st = 501) (hx : 0 ≤ x ∧ x < 1000) (hy : 0 ≤ y ∧ y < 1000) : (a + x * st) % 1000 = (a + y * st) % 1000 ↔ x = y := by
  constructor
  · intro h
    rcases hst with rfl | rfl | rfl | rfl | rfl | rfl <;> omega
  · intro h
    rw [h]
theorem map_wf {E : List (Int × Int)} {f : Int × Int → List Int} (hf : ∀ e, ∃ l r, f e = [l, r]) (h : E.length < 16000000) : Wf (E.map f) := ⟨fun e he => by
  obtain ⟨x, _, rfl⟩ := List.mem_map.mp he
  exact hf x, by rw [List.length_map]; exact h⟩
theorem fit0 {rows : List (Bool × List (Int × Int) × Int)} {β : Nat → Int × Int} (B : Built rows β) {E : List (Int × Int)} {pl : List Int} {a0 a1 st : Int} (M : Mix (esOf rows) E pl a0 a1 st) : Fit (E.map fun e => [e.1, e.2]) rows pl 0 := by
  have hc := B.count
  have hl := M.lenE
  have at_ : ∀ (k : Nat) e p, (esOf rows)[k]? = some e → pl[k]? = some p → ndT (E.map fun e => [e.1, e.2]) p 0 = (a0 + e.1 * st) % 1000 ∧ ndT (E.map fun e => [e.1, e.2]) p 1 = (a1 + e.2 * st) % 1000 := fun k e p hk hp => by
    have h1 := M.at_ k e p hk hp
    have hp0 := (upto_mem.mp (M.perm.mem_iff.mp (List.mem_of_getElem? hp))).1
    have h2 : (E.map fun e => [e.1, e.2])[p.toNat]? = some [(a0 + e.1 * st) % 1000, (a1 + e.2 * st) % 1000] := by
      rw [List.getElem?_map, h1]
      rfl
    have := ndT_at h2
    rwa [Int.toNat_of_nonneg hp0] at this
  refine ⟨map_wf (fun e => ⟨_, _, rfl⟩) (by omega), by rw [List.length_map, hl], by rw [List.length_map]; omega, by rw [List.length_map, hl]; exact M.perm, fun k k' e e' p p' hk hk' hp hp' s hs => ?_⟩
  obtain ⟨x0, x1⟩ := at_ k e p hk hp
  obtain ⟨y0, y1⟩ := at_ k' e' p' hk' hp'
  rcases hs with rfl | rfl
  · rw [x0, y0]
    exact num_inj M.step (B.inside (s := 0) (.inl rfl) hk) (B.inside (s := 0) (.inl rfl) hk')
  · rw [x1, y1]
    exact num_inj M.step (B.inside (s := 1) (.inr rfl) hk) (B.inside (s := 1) (.inr rfl) hk')
theorem fit1 {rows : List (Bool × List (Int × Int) × Int)} {β : Nat → Int × Int} (B : Built rows β) {E : List (Int × Int)} {pl : List Int} {a0 a1 st : Int} (M : Mix (esOf rows) E pl a0 a1 st) : Fit ((E.map fun e => (e.2, e.1)).map fun e => [e.1, e.2]) rows pl 1 := by
  have hc := B.count
  have hl := M.lenE
  rw [List.map_map]
  have at_ : ∀ (k : Nat) e p, (esOf rows)[k]? = some e → pl[k]? = some p → ndT (E.map ((fun e => [e.1, e.2]) ∘ fun e => (e.2, e.1))) p 0 = (a1 + e.2 * st) % 1000 ∧ ndT (E.map ((fun e => [e.1, e.2]) ∘ fun e => (e.2, e.1))) p 1 = (a0 + e.1 * st) % 1000 := fun k e p hk hp => by
    have h1 := M.at_ k e p hk hp
    have hp0 := (upto_mem.mp (M.perm.mem_iff.mp (List.mem_of_getElem? hp))).1
    have h2 : (E.map ((fun e : Int × Int => [e.1, e.2]) ∘ fun e : Int × Int => (e.2, e.1)))[p.toNat]? = some [(a1 + e.2 * st) % 1000, (a0 + e.1 * st) % 1000] := by
      rw [List.getElem?_map, h1]
      rfl
    have := ndT_at h2
    rwa [Int.toNat_of_nonneg hp0] at this
  refine ⟨map_wf (fun e => ⟨_, _, rfl⟩) (by omega), by rw [List.length_map, hl], by rw [List.length_map]; omega, by rw [List.length_map, hl]; exact M.perm, fun k k' e e' p p' hk hk' hp hp' s hs => ?_⟩
  obtain ⟨x0, x1⟩ := at_ k e p hk hp
  obtain ⟨y0, y1⟩ := at_ k' e' p' hk' hp'
  rcases hs with rfl | rfl
  · rw [x0, y0]
    exact num_inj M.step (B.inside (s := 1) (.inr rfl) hk) (B.inside (s := 1) (.inr rfl) hk')
  · rw [x1, y1]
    exact num_inj M.step (B.inside (s := 0) (.inl rfl) hk) (B.inside (s := 0) (.inl rfl) hk')

/-! ### a part's chain of positions -/
structure Chn (T : List (List Int)) (cl : Bool) (side ex : Int) (c : List Int) : Prop where
  ne : c ≠ []
  nod : c.Nodup
  ins : ∀ q ∈ c, Ins T q
  eq : ∀ (o o' : Nat) a b, c[o]? = some a → c[o']? = some b → ∀ s, (s = 0 ∨ s = 1) → (ndT T a s = ndT T b s ↔ vx cl c.length side o ((s + ex) % 2) = vx cl c.length side o' ((s + ex) % 2))
  out : ∀ q, Ins T q → q ∉ c → ∀ a ∈ c, ∀ s, (s = 0 ∨ s = 1) → ndT T q s ≠ ndT T a s
  even : cl = true → (c.length : Int) % 2 = 0 ∧ side = 0
  sd : side = 0 ∨ side = 1
  ex : ex = 0 ∨ ex = 1
theorem upto_nodup (n : Nat) : (upto n).Nodup := by
  unfold upto
  rw [List.nodup_iff_pairwise_ne, List.pairwise_map]
  exact List.pairwise_lt_range.imp fun h => by omega
theorem chain_of {rows : List (Bool × List (Int × Int) × Int)} {β : Nat → Int × Int} (B : Built rows β) {T : List (List Int)} {pl : List Int} {ex : Int} (F : Fit T rows pl ex) (hex : ex = 0 ∨ ex = 1) {j : Nat} {r : Bool × List (Int × Int) × Int} (hr : rows[j]? = some r) :
    ∃ side, Chn T r.1 side ex ((pl.drop (startOf rows j)).take r.2.1.length) ∧ ((pl.drop (startOf rows j)).take r.2.1.length).length = r.2.1.length ∧ startOf rows j + r.2.1.length ≤ pl.length := by
  obtain ⟨size, side, P, _⟩ := B.at_ j r hr
  have hplen : pl.length = (esOf rows).length := by rw [F.perm.length_eq, upto_len, F.len]
  have hsize : (r.2.1.length : Int) = size := P.part.len
  have hle : startOf rows j + r.2.1.length ≤ pl.length := by
    have h1 := P.pos
    have hn : r.2.1.length - 1 < r.2.1.length := by omega
    have := loc_of hr (List.getElem?_eq_getElem hn)
    have := (List.getElem?_eq_some_iff.mp this).1
    omega
  have hcl : ((pl.drop (startOf rows j)).take r.2.1.length).length = r.2.1.length := by
    rw [List.length_take, List.length_drop]
    omega
  have hnd : pl.Nodup := by rw [F.perm.nodup_iff]; exact upto_nodup _
  have get : ∀ (o : Nat) a, ((pl.drop (startOf rows j)).take r.2.1.length)[o]? = some a → o < r.2.1.length ∧ pl[startOf rows j + o]? = some a := fun o a h => by
    have ho := (List.getElem?_eq_some_iff.mp h).1
    rw [hcl] at ho
    rw [List.getElem?_take_of_lt ho, List.getElem?_drop] at h
    exact ⟨ho, h⟩
  refine ⟨side, ⟨?_, ?_, fun q hq => ?_, fun o o' a b ha hb s hs => ?_, fun q hq hqn a ha s hs => ?_, ?_, P.sd, hex⟩, hcl, hle⟩
  · intro z
    rw [z] at hcl
    have := P.pos
    simp at hcl
    omega
  · exact (hnd.sublist (List.drop_sublist _ _)).sublist (List.take_sublist _ _)
  · have := (List.mem_of_mem_drop (List.mem_of_mem_take hq))
    exact upto_mem.mp (F.perm.mem_iff.mp this)
  · obtain ⟨ho, hpa⟩ := get o a ha
    obtain ⟨ho', hpb⟩ := get o' b hb
    have e1 := List.getElem?_eq_getElem ho
    have e2 := List.getElem?_eq_getElem ho'
    rw [hcl, hsize, F.eq _ _ _ _ _ _ (loc_of hr e1) (loc_of hr e2) hpa hpb s hs]
    exact P.node (by omega) e1 e2
  · obtain ⟨o, hoa⟩ := List.getElem?_of_mem ha
    obtain ⟨ho, hpa⟩ := get o a hoa
    have e1 := List.getElem?_eq_getElem ho
    have hqpl : q ∈ pl := F.perm.mem_iff.mpr (upto_mem.mpr hq)
    obtain ⟨k', hk'⟩ := List.getElem?_of_mem hqpl
    have hk'l := (List.getElem?_eq_some_iff.mp hk').1
    have hk'e : (esOf rows)[k']? = some (esOf rows)[k'] := List.getElem?_eq_getElem (by omega)
    intro h
    have h2 := (F.eq _ _ _ _ _ _ hk'e (loc_of hr e1) hk' hpa s hs).mp h
    obtain ⟨j', o', r', hr', he', hkk⟩ := loc_ex hk'e
    have ej := B.same (s := (s + ex) % 2) (by omega) hr' hr he' e1 h2
    subst ej
    rw [hr] at hr'
    cases hr'
    have ho' := (List.getElem?_eq_some_iff.mp he').1
    refine hqn (List.mem_of_getElem? (i := o') ?_)
    rw [List.getElem?_take_of_lt ho', List.getElem?_drop, ← hkk]
    exact hk'
  · intro h
    rw [hcl, hsize]
    exact P.even h
/-- the side of the joint behind offset o -/
theorem Chn.joint {T : List (List Int)} {cl : Bool} {side ex : Int} {c : List Int} (H : Chn T cl side ex c) {o : Nat} {a b : Int} (ha : c[o]? = some a) (hb : c[o + 1]? = some b) {s : Int} (hs : s = (side + o + 1 + ex) % 2) : ndT T b s = ndT T a s := by
  have h1 := (List.getElem?_eq_some_iff.mp hb).1
  have h0 := H.ex
  rw [H.eq (o + 1) o b a hb ha s (by omega)]
  unfold vx
  rw [if_pos (by subst hs; omega), if_neg (by subst hs; omega), if_neg (by omega)]
  omega
theorem Chn.closing {T : List (List Int)} {side ex : Int} {c : List Int} (H : Chn T true side ex c) {a b : Int} (ha : c[c.length - 1]? = some a) (hb : c[0]? = some b) {s : Int} (hs : s = ex % 2) : ndT T b s = ndT T a s := by
  obtain ⟨e1, e2⟩ := H.even rfl
  have h1 := (List.getElem?_eq_some_iff.mp hb).1
  have h0 := H.ex
  subst e2
  have hz : ((c.length - 1 : Nat) : Int) = (c.length : Int) - 1 := by omega
  rw [H.eq 0 (c.length - 1) b a hb ha s (by omega), hz]
  unfold vx
  rw [if_pos (by subst hs; omega), if_neg (by subst hs; omega), if_pos ⟨rfl, by omega⟩]
  rfl

/-! ### open rows -/
theorem lst_get {c : List Int} (h : c ≠ []) : c[c.length - 1]? = some (lst' c) := by
  unfold lst'
  rw [List.getLastD_eq_getLast?, List.getLast?_eq_getElem?]
  have : c.length - 1 < c.length := by
    have := List.length_pos_iff.mpr h
    omega
  rw [List.getElem?_eq_getElem this]
  rfl
theorem hd_get {c : List Int} (h : c ≠ []) : c[0]? = some (hd c) := by
  cases c with
  | nil => exact absurd rfl h
  | cons a l => rfl
theorem Chn.freeHd {T : List (List Int)} {side ex : Int} {c : List Int} (H : Chn T false side ex c) {s : Int} (hs : s = 0 ∨ s = 1) (h : (s + ex) % 2 = side) : ∀ q, Ins T q → q ≠ hd c → ndT T q s ≠ ndT T (hd c) s := fun q hq hne => by
  by_cases hm : q ∈ c
  · obtain ⟨o, ho⟩ := List.getElem?_of_mem hm
    intro z
    have := (H.eq o 0 q (hd c) ho (hd_get H.ne) s hs).mp z
    have hsd := H.sd
    have ho0 : o ≠ 0 := fun z => by
      subst z
      rw [hd_get H.ne] at ho
      exact hne (Option.some.inj ho).symm
    unfold vx at this
    rw [h] at this
    rw [if_pos (show (side + ((0 : Nat) : Int)) % 2 = side by omega), if_neg (show ¬ (false = true ∧ (o : Int) + 1 = c.length) by simp)] at this
    split at this <;> omega
  · exact H.out q hq hm (hd c) (hd_mem H.ne) s hs
theorem Chn.freeLst {T : List (List Int)} {side ex : Int} {c : List Int} (H : Chn T false side ex c) {s : Int} (hs : s = 0 ∨ s = 1) (h : (s + ex) % 2 = (side + c.length) % 2) : ∀ q, Ins T q → q ≠ lst' c → ndT T q s ≠ ndT T (lst' c) s := fun q hq hne => by
  by_cases hm : q ∈ c
  · obtain ⟨o, ho⟩ := List.getElem?_of_mem hm
    intro z
    have := (H.eq o (c.length - 1) q (lst' c) ho (lst_get H.ne) s hs).mp z
    have hpos := List.length_pos_iff.mpr H.ne
    have hol := (List.getElem?_eq_some_iff.mp ho).1
    have ho0 : o ≠ c.length - 1 := fun z => by
      subst z
      rw [lst_get H.ne] at ho
      exact hne (Option.some.inj ho).symm
    have hz : ((c.length - 1 : Nat) : Int) = (c.length : Int) - 1 := by omega
    unfold vx at this
    rw [h, hz] at this
    rw [if_neg (show ¬ ((side + ((c.length : Int) - 1)) % 2 = (side + c.length) % 2) by omega), if_neg (show ¬ (false = true ∧ (o : Int) + 1 = c.length) by simp), if_neg (show ¬ (false = true ∧ (c.length : Int) - 1 + 1 = c.length) by simp)] at this
    split at this <;> omega
  · exact H.out q hq hm (lst' c) (lst_mem H.ne) s hs
theorem rev_hd {c : List Int} : hd c.reverse = lst' c := by
  unfold hd lst'
  rw [List.headD_eq_head?_getD, List.head?_reverse, List.getLastD_eq_getLast?]
theorem rev_lst {c : List Int} : lst' c.reverse = hd c := by
  unfold hd lst'
  rw [List.headD_eq_head?_getD, List.getLastD_eq_getLast?, List.getLast?_reverse]
theorem Chn.openA {T : List (List Int)} {side ex : Int} {c : List Int} (H : Chn T false side ex c) (hle : hd c ≤ lst' c) : OpenRow T c := by
  have hsd := H.sd
  have hex := H.ex
  refine ⟨H.ne, ⟨(side + 1 + ex) % 2, by omega, jn_of H.ne (by omega) fun k a b ha hb => H.joint ha hb (by omega), H.freeHd (by omega) (by omega), ?_⟩, hle⟩
  rw [lastS_of H.ne (by omega)]
  exact H.freeLst (by omega) (by omega)
theorem Chn.openB {T : List (List Int)} {side ex : Int} {c : List Int} (H : Chn T false side ex c) (hle : lst' c ≤ hd c) : OpenRow T c.reverse := by
  have hsd := H.sd
  have hex := H.ex
  have hne : c.reverse ≠ [] := by simpa using H.ne
  have hpos := List.length_pos_iff.mpr H.ne
  refine ⟨hne, ⟨(side + (c.length : Int) + 1 + ex) % 2, by omega, jn_of hne (by omega) fun k a b ha hb => ?_, ?_, ?_⟩, by rw [rev_hd, rev_lst]; exact hle⟩
  · have hk1 := (List.getElem?_eq_some_iff.mp hb).1
    rw [List.length_reverse] at hk1
    rw [List.getElem?_reverse (by omega)] at ha hb
    have := H.joint (o := c.length - 1 - (k + 1)) (a := b) (b := a) hb (by rw [show c.length - 1 - (k + 1) + 1 = c.length - 1 - k by omega]; exact ha) (s := ((side + c.length + 1 + ex) % 2 + k) % 2) (by omega)
    exact this.symm
  · rw [rev_hd]
    exact H.freeLst (by omega) (by omega)
  · rw [rev_lst, lastS_of hne (by omega), List.length_reverse]
    exact H.freeHd (by omega) (by omega)

/-! ### closed rows -/
def rotF (m f k : Nat) : Nat := if f + k < m then f + k else f + k - m
def rotB (m f k : Nat) : Nat := if k ≤ f then f - k else f + m - k
def pick (c : List Int) (g : Nat → Nat) : List Int := (List.range c.length).map fun k => (c[g k]?).getD 0
theorem pick_len {c : List Int} {g : Nat → Nat} : (pick c g).length = c.length := by simp [pick]
theorem pick_get {c : List Int} {g : Nat → Nat} {k : Nat} (hk : k < c.length) (hg : g k < c.length) : (pick c g)[k]? = c[g k]? := by
  unfold pick
  rw [List.getElem?_map, List.getElem?_range hk]
  show some ((c[g k]?).getD 0) = c[g k]?
  rw [List.getElem?_eq_getElem hg]
  rfl
theorem pick_perm {c : List Int} {g : Nat → Nat} (hn : c.Nodup) (hg : ∀ k, k < c.length → g k < c.length) (hi : ∀ k l, k < c.length → l < c.length → g k = g l → k = l) : (pick c g).Perm c := by
  refine sub_perm ?_ (fun x hx => ?_) (by rw [pick_len]; exact Nat.le_refl _)
  · unfold pick
    rw [List.nodup_iff_pairwise_ne, List.pairwise_map]
    refine List.Pairwise.imp_of_mem (fun {a b} ha hb hab => ?_) List.pairwise_lt_range
    rw [List.mem_range] at ha hb
    rw [List.getElem?_eq_getElem (hg a ha), List.getElem?_eq_getElem (hg b hb)]
    intro z
    have z' : c[g a]'(hg a ha) = c[g b]'(hg b hb) := z
    have e3 : c[g a]? = c[g b]? := by rw [List.getElem?_eq_getElem (hg a ha), List.getElem?_eq_getElem (hg b hb), z']
    have : g a = g b := by first | exact List.getElem?_inj (hg a ha) hn e3 | exact (List.getElem?_inj (hg a ha) hn).mp e3
    have := hi a b ha hb this
    omega
  · unfold pick at hx
    obtain ⟨k, hk, rfl⟩ := List.mem_map.mp hx
    rw [List.mem_range] at hk
    rw [List.getElem?_eq_getElem (hg k hk)]
    exact List.getElem_mem _
theorem rotF_lt {m f k : Nat} (hf : f < m) (hk : k < m) : rotF m f k < m := by unfold rotF; split <;> omega
theorem rotB_lt {m f k : Nat} (hf : f < m) (hk : k < m) : rotB m f k < m := by unfold rotB; split <;> omega
theorem rotF_inj {m f k l : Nat} (hf : f < m) (hk : k < m) (hl : l < m) (h : rotF m f k = rotF m f l) : k = l := by unfold rotF at h; split at h <;> split at h <;> omega
theorem rotB_inj {m f k l : Nat} (hf : f < m) (hk : k < m) (hl : l < m) (h : rotB m f k = rotB m f l) : k = l := by unfold rotB at h; split at h <;> split at h <;> omega
/-- the joint behind offset o, around -/
theorem Chn.ring {T : List (List Int)} {side ex : Int} {c : List Int} (H : Chn T true side ex c) {o o' : Nat} {a b : Int} (ho : o' = if o + 1 < c.length then o + 1 else 0) (ha : c[o]? = some a) (hb : c[o']? = some b) {s : Int} (hs : s = (o + 1 + ex) % 2) : ndT T b s = ndT T a s := by
  obtain ⟨e1, e2⟩ := H.even rfl
  have hol := (List.getElem?_eq_some_iff.mp ha).1
  by_cases c1 : o + 1 < c.length
  · rw [if_pos c1] at ho
    subst ho
    exact H.joint ha hb (by rw [e2]; omega)
  · rw [if_neg c1] at ho
    subst ho
    have : o = c.length - 1 := by omega
    subst this
    exact H.closing ha hb (by omega)
theorem Chn.closedF {T : List (List Int)} {side ex : Int} {c : List Int} (H : Chn T true side ex c) {f : Nat} (hf : f < c.length) (hp : ((f : Int) + ex) % 2 = 0) (hmin : ∀ q ∈ c, (c[f]?).getD 0 ≤ q) : ClosedRow T (pick c (rotF c.length f)) := by
  obtain ⟨e1, e2⟩ := H.even rfl
  have hex := H.ex
  have hpos := List.length_pos_iff.mpr H.ne
  have hlen : (pick c (rotF c.length f)).length = c.length := pick_len
  have hne : pick c (rotF c.length f) ≠ [] := fun z => by rw [z] at hlen; simp at hlen; omega
  have get := fun k (hk : k < c.length) => pick_get (g := rotF c.length f) hk (rotF_lt hf hk)
  have hperm := pick_perm H.nod (fun k hk => rotF_lt hf hk) fun k l hk hl h => rotF_inj hf hk hl h
  have hhd : hd (pick c (rotF c.length f)) = (c[f]?).getD 0 := by
    have h1 := hd_get hne
    rw [get 0 hpos] at h1
    have : rotF c.length f 0 = f := by unfold rotF; rw [if_pos (by omega)]; omega
    rw [this] at h1
    rw [h1]
    rfl
  refine ⟨by omega, jn_of hne (.inr rfl) fun k a b ha hb => ?_, ?_, ?_, fun q hq => ?_⟩
  · have hk := (List.getElem?_eq_some_iff.mp hb).1
    rw [hlen] at hk
    rw [get k (by omega)] at ha
    rw [get (k + 1) hk] at hb
    refine H.ring ?_ ha hb ?_
    · unfold rotF; split <;> split <;> split <;> omega
    · unfold rotF; split <;> omega
  · rw [lastS_of hne (.inr rfl), hlen]
    omega
  · have h1 := hd_get hne
    have h2 := lst_get hne
    rw [get 0 hpos] at h1
    rw [hlen, get (c.length - 1) (by omega)] at h2
    refine (H.ring ?_ h2 h1 ?_).symm
    · unfold rotF; split <;> split <;> split <;> omega
    · unfold rotF; split <;> omega
  · rw [hhd]
    exact hmin q (hperm.mem_iff.mp hq)
theorem Chn.closedB {T : List (List Int)} {side ex : Int} {c : List Int} (H : Chn T true side ex c) {f : Nat} (hf : f < c.length) (hp : ((f : Int) + ex) % 2 = 1) (hmin : ∀ q ∈ c, (c[f]?).getD 0 ≤ q) : ClosedRow T (pick c (rotB c.length f)) := by
  obtain ⟨e1, e2⟩ := H.even rfl
  have hex := H.ex
  have hpos := List.length_pos_iff.mpr H.ne
  have hlen : (pick c (rotB c.length f)).length = c.length := pick_len
  have hne : pick c (rotB c.length f) ≠ [] := fun z => by rw [z] at hlen; simp at hlen; omega
  have get := fun k (hk : k < c.length) => pick_get (g := rotB c.length f) hk (rotB_lt hf hk)
  have hperm := pick_perm H.nod (fun k hk => rotB_lt hf hk) fun k l hk hl h => rotB_inj hf hk hl h
  have hhd : hd (pick c (rotB c.length f)) = (c[f]?).getD 0 := by
    have h1 := hd_get hne
    rw [get 0 hpos] at h1
    have : rotB c.length f 0 = f := by unfold rotB; rw [if_pos (by omega)]; omega
    rw [this] at h1
    rw [h1]
    rfl
  refine ⟨by omega, jn_of hne (.inr rfl) fun k a b ha hb => ?_, ?_, ?_, fun q hq => ?_⟩
  · have hk := (List.getElem?_eq_some_iff.mp hb).1
    rw [hlen] at hk
    rw [get k (by omega)] at ha
    rw [get (k + 1) hk] at hb
    refine (H.ring ?_ hb ha ?_).symm
    · unfold rotB; split <;> split <;> split <;> omega
    · unfold rotB; split <;> omega
  · rw [lastS_of hne (.inr rfl), hlen]
    omega
  · have h1 := hd_get hne
    have h2 := lst_get hne
    rw [get 0 hpos] at h1
    rw [hlen, get (c.length - 1) (by omega)] at h2
    refine H.ring ?_ h1 h2 ?_
    · unfold rotB; split <;> split <;> split <;> omega
    · unfold rotB; split <;> omega
  · rw [hhd]
    exact hmin q (hperm.mem_iff.mp hq)

/-! ### the rows that are due -/
/-- one part: its row -/
theorem rep_ok {T : List (List Int)} {cl : Bool} {side ex : Int} {c : List Int} (H : Chn T cl side ex c) (hl : c.length < 3000) (st : Int) (opened closed : List (List Int)) (ho : opened.length < 10000) (hc : closed.length < 10000) :
    ∃ rep, rep.Perm c ∧ (cl = true → ClosedRow T rep) ∧ (cl = false → OpenRow T rep) ∧
    (((minL c) >>= fun t3 => indexO c t3) >>= fun first =>
    (if cl = true then pure (decide ((first + ex) % 2 = 0)) else pure false) >>= fun c4 => if c4 = true then (
    (((rangeO (c.length : Int)) >>= fun t7 => mapO (fun k5 => (modO (first + k5) (c.length : Int)) >>= fun t6 => idx c t6) t7) >>= fun t9 => pure t9) >>= fun a10 => appO closed a10 >>= fun closed =>
    pure (st, closed, opened))
    else (
    (pure cl) >>= fun c11 => if c11 = true then (
    (((rangeO (c.length : Int)) >>= fun t14 => mapO (fun k12 => (modO ((first + (c.length : Int)) - k12) (c.length : Int)) >>= fun t13 => idx c t13) t14) >>= fun t16 => pure t16) >>= fun a17 => appO closed a17 >>= fun closed =>
    pure (st, closed, opened))
    else (
    ((idx c 0) >>= fun t18 => (idx c ((c.length : Int) - 1)) >>= fun t19 => pure (decide (t19 < t18))) >>= fun c20 => if c20 = true then (
    (((rangeO (c.length : Int)) >>= fun t22 => mapO (fun k21 => idx c (((c.length : Int) - 1) - k21)) t22) >>= fun t24 => pure t24) >>= fun a25 => appO opened a25 >>= fun opened =>
    pure (st, closed, opened))
    else (
    (pure c) >>= fun a26 => appO opened a26 >>= fun opened =>
    pure (st, closed, opened))))) = (pure (if cl = true then (st, closed ++ [rep], opened) else (st, closed, opened ++ [rep])) : Out (Int × List (List Int) × List (List Int))) := by
  have hpos := List.length_pos_iff.mpr H.ne
  obtain ⟨m, hm, hmm, hml⟩ := minL_ok H.ne
  have hix : indexO c m = pure ((c.findIdx (fun y => decide (y = m)) : Nat) : Int) := if_pos hmm
  have hf : c.findIdx (fun y => decide (y = m)) < c.length := List.findIdx_lt_length_of_exists ⟨m, hmm, by simp⟩
  have hcf : c[c.findIdx (fun y => decide (y = m))]? = some m := by
    rw [List.getElem?_eq_getElem hf]
    have := List.findIdx_getElem (w := hf)
    simpa using this
  rw [hm, pbind, hix, pbind]
  generalize c.findIdx (fun y => decide (y = m)) = f at *
  have hmin : ∀ q ∈ c, (c[f]?).getD 0 ≤ q := fun q hq => by rw [hcf]; exact hml q hq
  have hex := H.ex
  have mapF : ∀ (g : Nat → Nat) (F : Int → Out Int), (∀ k, k < c.length → g k < c.length ∧ F (k : Int) = idx c ((g k : Nat) : Int)) → ((rangeO (c.length : Int)) >>= fun t7 => mapO F t7) = pure (pick c g) := fun g F hF => by
    rw [rangeO_nat (by omega), pbind, mapO_ok (g := fun k => (c[g k.toNat]?).getD 0) (upto c.length) fun k hk => by
      obtain ⟨k0, k1⟩ := upto_mem.mp hk
      have hkn : ((k.toNat : Nat) : Int) = k := Int.toNat_of_nonneg k0
      obtain ⟨h1, h2⟩ := hF k.toNat (by omega)
      rw [hkn] at h2
      rw [h2, List.getElem?_eq_getElem h1]
      exact idx_nat (List.getElem?_eq_getElem h1)]
    unfold upto pick
    rw [List.map_map]
    rfl
  cases cl with
  | true =>
    rw [if_pos rfl, pbind]
    by_cases hp : ((f : Int) + ex) % 2 = 0
    · refine ⟨_, pick_perm H.nod (fun k hk => rotF_lt hf hk) fun k l hk hl h => rotF_inj hf hk hl h, fun _ => H.closedF hf hp hmin, (fun z => nomatch z), ?_⟩
      rw [if_pos (decide_eq_true hp), mapF (rotF c.length f) _ fun k hk => ⟨rotF_lt hf hk, by
        rw [modO_ok (by omega), pbind]
        congr 1
        unfold rotF
        split
        · rw [Int.emod_eq_of_lt (by omega) (by omega)]; omega
        · rw [← Int.sub_emod_right, Int.emod_eq_of_lt (by omega) (by omega)]; omega⟩, pbind, pbind, appO_ok (by omega), pbind, if_pos rfl]
    · refine ⟨_, pick_perm H.nod (fun k hk => rotB_lt hf hk) fun k l hk hl h => rotB_inj hf hk hl h, fun _ => H.closedB hf (by omega) hmin, (fun z => nomatch z), ?_⟩
      rw [if_neg (by simp [hp]), pbind, if_pos rfl, mapF (rotB c.length f) _ fun k hk => ⟨rotB_lt hf hk, by
        rw [modO_ok (by omega), pbind]
        congr 1
        unfold rotB
        split
        · rw [← Int.sub_emod_right, Int.emod_eq_of_lt (by omega) (by omega)]; omega
        · rw [Int.emod_eq_of_lt (by omega) (by omega)]; omega⟩, pbind, pbind, appO_ok (by omega), pbind, if_pos rfl]
  | false =>
    have h0 : idx c 0 = pure (hd c) := idx_nat (k := 0) (hd_get H.ne)
    have h1 : idx c ((c.length : Int) - 1) = pure (lst' c) := by
      have := idx_nat (lst_get H.ne)
      rwa [show ((c.length - 1 : Nat) : Int) = (c.length : Int) - 1 by omega] at this
    rw [if_neg Bool.false_ne_true, pbind, if_neg Bool.false_ne_true, pbind, if_neg Bool.false_ne_true, h0, pbind, h1, pbind, pbind]
    by_cases hp : lst' c < hd c
    · have er : pick c (fun k => c.length - 1 - k) = c.reverse := by
        refine List.ext_getElem? fun k => ?_
        by_cases hk : k < c.length
        · rw [pick_get hk (by omega), List.getElem?_reverse hk]
        · rw [List.getElem?_eq_none (by rw [pick_len]; omega), List.getElem?_eq_none (by simp; omega)]
      refine ⟨c.reverse, List.reverse_perm c, (fun z => nomatch z), fun _ => H.openB (by omega), ?_⟩
      rw [if_pos (decide_eq_true hp), mapF (fun k => c.length - 1 - k) _ fun k hk => ⟨by omega, by rw [show ((c.length - 1 - k : Nat) : Int) = (c.length : Int) - 1 - k by omega]⟩, pbind, pbind, er, appO_ok (by omega), pbind, if_neg Bool.false_ne_true]
    · refine ⟨c, List.Perm.refl c, (fun z => nomatch z), fun _ => H.openA (by omega), ?_⟩
      rw [if_neg (by simp; omega), pbind, appO_ok (by omega), pbind, if_neg Bool.false_ne_true]

theorem sorted_heads {L : List (List Int)} (hn : L.flatten.Nodup) (hne : ∀ c ∈ L, c ≠ []) (hs : L.Pairwise (fun a b => lexL b a = false)) : L.Pairwise fun a b => hd a < hd b := by
  induction L with
  | nil => exact .nil
  | cons a l ih =>
    rw [List.flatten_cons, List.nodup_append] at hn
    obtain ⟨h1, h2⟩ := List.pairwise_cons.mp hs
    refine List.pairwise_cons.mpr ⟨fun b hb => ?_, ih hn.2.1 (fun c hc => hne c (by simp [hc])) h2⟩
    have hlex := h1 b hb
    have ha := hne a (by simp)
    have hb' := hne b (by simp [hb])
    cases a with
    | nil => exact absurd rfl ha
    | cons x a =>
      cases b with
      | nil => exact absurd rfl hb'
      | cons y b =>
        have hxy : x ≠ y := fun z => hn.2.2 x (by simp) y (List.mem_flatten.mpr ⟨_, hb, by simp⟩) z
        unfold lexL at hlex
        rw [if_neg (Ne.symm hxy)] at hlex
        have := of_decide_eq_false hlex
        show x < y
        omega
theorem due_ok {rows : List (Bool × List (Int × Int) × Int)} {β : Nat → Int × Int} (B : Built rows β) {T : List (List Int)} {pl : List Int} {ex : Int} (F : Fit T rows pl ex) (hex : ex = 0 ∨ ex = 1) (h2 : Two T) :
    ∃ O C, m_law_due rows pl ex = pure (O ++ C) ∧ Sys T O C := by
  have hcnt := B.count
  have hplen : pl.length = (esOf rows).length := by rw [F.perm.length_eq, upto_len, F.len]
  have hpnd : pl.Nodup := by rw [F.perm.nodup_iff]; exact upto_nodup _
  rw [m_law_due_eq]
  unfold b_law_due
  rw [pbind, pbind, pbind, pbind]
  obtain ⟨s', e, g1, g2, g3, g4⟩ := forO_inv0 (f := fun (s1 : Int × (List (List Int)) × (List (List Int))) (x2 : Bool × (List (Int × Int)) × Int) =>
    (pure (x2.2.1.length : Int)) >>= fun size =>
    (pure (cut pl (some s1.1) (some (s1.1 + size)))) >>= fun chain =>
    (pure (s1.1 + size)) >>= fun start =>
    ((minL chain) >>= fun t3 => indexO chain t3) >>= fun first =>
    (if x2.1 = true then pure (decide ((first + ex) % 2 = 0)) else pure false) >>= fun c4 => if c4 = true then (
    (((rangeO size) >>= fun t7 => mapO (fun k5 => (modO (first + k5) size) >>= fun t6 => idx chain t6) t7) >>= fun t9 => pure t9) >>= fun a10 => appO s1.2.1 a10 >>= fun closed =>
    pure (start, closed, s1.2.2))
    else (
    (pure x2.1) >>= fun c11 => if c11 = true then (
    (((rangeO size) >>= fun t14 => mapO (fun k12 => (modO ((first + size) - k12) size) >>= fun t13 => idx chain t13) t14) >>= fun t16 => pure t16) >>= fun a17 => appO s1.2.1 a17 >>= fun closed =>
    pure (start, closed, s1.2.2))
    else (
    ((idx chain 0) >>= fun t18 => (idx chain (size - 1)) >>= fun t19 => pure (decide (t19 < t18))) >>= fun c20 => if c20 = true then (
    (((rangeO size) >>= fun t22 => mapO (fun k21 => idx chain ((size - 1) - k21)) t22) >>= fun t24 => pure t24) >>= fun a25 => appO s1.2.2 a25 >>= fun opened =>
    pure (start, s1.2.1, opened))
    else (
    (pure chain) >>= fun a26 => appO s1.2.2 a26 >>= fun opened =>
    pure (start, s1.2.1, opened)))))
    (fun j s => s.1 = (startOf rows j : Int) ∧ (s.2.2.flatten ++ s.2.1.flatten).Perm (pl.take (startOf rows j)) ∧ (∀ c ∈ s.2.2, OpenRow T c) ∧ ∀ c ∈ s.2.1, ClosedRow T c)
    rows (0, [], []) ⟨by simp [startOf, esOf], by simp [startOf, esOf], by simp, by simp⟩ (fun j s r hr ⟨g1, g2, g3, g4⟩ => by
      obtain ⟨side, H, hcl, hle⟩ := chain_of B F hex hr
      have hcut : cut pl (some s.1) (some (s.1 + (r.2.1.length : Int))) = (pl.drop (startOf rows j)).take r.2.1.length := by
        rw [g1, show (startOf rows j : Int) + (r.2.1.length : Int) = ((startOf rows j + r.2.1.length : Nat) : Int) by omega, cut_mid]
        congr 1
        · omega
        · rw [Nat.min_eq_left (by omega)]
      have hlen := g2.length_eq
      rw [List.length_append, List.length_take] at hlen
      have ho := len_le_flat fun c hc => (g3 c hc).ne
      have hc := len_le_flat (L := s.2.1) fun c hc z => by have := (g4 c hc).len; rw [z] at this; simp at this
      obtain ⟨rep, hp, k1, k2, hrun⟩ := rep_ok H (by rw [hcl]; omega) (s.1 + (r.2.1.length : Int)) s.2.2 s.2.1 (by omega) (by omega)
      rw [hcl] at hrun
      rw [pbind, hcut, pbind, pbind, hrun]
      have hst := start_succ hr
      have htake : pl.take (startOf rows (j + 1)) = pl.take (startOf rows j) ++ (pl.drop (startOf rows j)).take r.2.1.length := by
        rw [hst, List.take_add]
      refine ⟨_, rfl, ?_⟩
      by_cases cl : r.1 = true
      · rw [if_pos cl]
        refine ⟨by show s.1 + _ = _; rw [g1, hst]; omega, ?_, g3, fun c hc => ?_⟩
        · show (s.2.2.flatten ++ (s.2.1 ++ [rep]).flatten).Perm _
          rw [flat_app, ← List.append_assoc, htake]
          exact g2.append hp
        · rcases List.mem_append.mp hc with h | h
          · exact g4 c h
          · rw [List.mem_singleton.mp h]; exact k1 cl
      · rw [if_neg cl]
        refine ⟨by show s.1 + _ = _; rw [g1, hst]; omega, ?_, fun c hc => ?_, g4⟩
        · show ((s.2.2 ++ [rep]).flatten ++ s.2.1.flatten).Perm _
          rw [flat_app, htake, List.append_assoc]
          refine (List.Perm.append_left _ List.perm_append_comm).trans ?_
          rw [← List.append_assoc]
          exact g2.append hp
        · rcases List.mem_append.mp hc with h | h
          · exact g3 c h
          · rw [List.mem_singleton.mp h]; exact k2 (by simpa using cl))
  have hall : startOf rows rows.length = pl.length := by
    rw [hplen]
    unfold startOf
    rw [List.take_of_length_le (Nat.le_refl _)]
  rw [hall, List.take_of_length_le (Nat.le_refl _)] at g2
  have neO : ∀ c ∈ s'.2.2, c ≠ [] := fun c hc => (g3 c hc).ne
  have neC : ∀ c ∈ s'.2.1, c ≠ [] := fun c hc z => by have := (g4 c hc).len; rw [z] at this; simp at this
  have pO := sortT_perm s'.2.2
  have pC := sortT_perm s'.2.1
  have pall : ((sortT s'.2.2).flatten ++ (sortT s'.2.1).flatten).Perm (upto T.length) := ((pO.flatten.append pC.flatten).trans g2).trans F.perm
  have hnd : ((sortT s'.2.2).flatten ++ (sortT s'.2.1).flatten).Nodup := by rw [pall.nodup_iff]; exact upto_nodup _
  rw [List.nodup_append] at hnd
  have oO := len_le_flat neO
  have oC := len_le_flat neC
  have hlen := g2.length_eq
  rw [List.length_append] at hlen
  refine ⟨sortT s'.2.2, sortT s'.2.1, ?_, F.wf, h2, F.small, pall, fun c hc => g3 c (pO.mem_iff.mp hc), fun c hc => g4 c (pC.mem_iff.mp hc), sorted_heads hnd.1 (fun c hc => neO c (pO.mem_iff.mp hc)) (sortT_sorted _), sorted_heads hnd.2.1 (fun c hc => neC c (pC.mem_iff.mp hc)) (sortT_sorted _)⟩
  have e1 : sortTO s'.2.2 = pure (sortT s'.2.2) := if_pos neO
  have e2 : sortTO s'.2.1 = pure (sortT s'.2.1) := if_pos neC
  rw [e, pbind, e1, pbind, e2, pbind, catO_ok (by rw [pO.length_eq, pC.length_eq]; omega), pbind]
theorem two_ok {rows : List (Bool × List (Int × Int) × Int)} {β : Nat → Int × Int} (B : Built rows β) {T : List (List Int)} {pl : List Int} {ex : Int} (F : Fit T rows pl ex) : Two T := fun p q r s p0 p1 q0 q1 r0 r1 hs h1 h2 => by
  have hplen : pl.length = (esOf rows).length := by rw [F.perm.length_eq, upto_len, F.len]
  have at_ : ∀ p : Int, 0 ≤ p → p < T.length → ∃ (j o : Nat) (r : Bool × List (Int × Int) × Int) (e : Int × Int), rows[j]? = some r ∧ r.2.1[o]? = some e ∧ (esOf rows)[startOf rows j + o]? = some e ∧ pl[startOf rows j + o]? = some p := fun p h0 h1 => by
    obtain ⟨k, hk⟩ := List.getElem?_of_mem (F.perm.mem_iff.mpr (upto_mem.mpr ⟨h0, h1⟩))
    have hkl := (List.getElem?_eq_some_iff.mp hk).1
    have he : (esOf rows)[k]? = some (esOf rows)[k] := List.getElem?_eq_getElem (by omega)
    obtain ⟨j, o, r, hr, hre, hkk⟩ := loc_ex he
    subst hkk
    exact ⟨j, o, r, _, hr, hre, he, hk⟩
  obtain ⟨j1, o1, r1', e1, a1, b1, c1, d1⟩ := at_ p p0 p1
  obtain ⟨j2, o2, r2', e2, a2, b2, c2, d2⟩ := at_ q q0 q1
  obtain ⟨j3, o3, r3', e3, a3, b3, c3, d3⟩ := at_ r r0 r1
  have hs' : (s + ex) % 2 = 0 ∨ (s + ex) % 2 = 1 := by omega
  have k1 := (F.eq _ _ _ _ _ _ c1 c2 d1 d2 s hs).mp h1
  have k2 := (F.eq _ _ _ _ _ _ c2 c3 d2 d3 s hs).mp h2
  have := B.same hs' a1 a2 b1 b2 k1
  subst this
  have := B.same hs' a2 a3 b2 b3 k2
  subst this
  rw [a1] at a2 a3
  cases a2
  cases a3
  obtain ⟨size, side, P, _⟩ := B.at_ _ _ a1
  have v1 := (P.node hs' b1 b2).mp k1
  have v2 := (P.node hs' b2 b3).mp k2
  rcases vx_two ⟨by omega, P.lt b1⟩ ⟨by omega, P.lt b2⟩ ⟨by omega, P.lt b3⟩ v1 v2 with z | z | z
  · have : o1 = o2 := by omega
    subst this
    rw [d1] at d2
    exact .inl (Option.some.inj d2)
  · have : o2 = o3 := by omega
    subst this
    rw [d2] at d3
    exact .inr (.inl (Option.some.inj d3))
  · have : o1 = o3 := by omega
    subst this
    rw [d1] at d3
    exact .inr (.inr (Option.some.inj d3))

/-! ### the law -/
theorem Built.pre {rows : List (Bool × List (Int × Int) × Int)} {β : Nat → Int × Int} (B : Built rows β) (n : Nat) : Built (rows.take n) β := ⟨B.zero, by rw [List.length_take]; have := B.few; omega, fun j r h => by
  have hj := (List.getElem?_eq_some_iff.mp h).1
  rw [List.length_take] at hj
  rw [List.getElem?_take_of_lt (by omega)] at h
  exact B.at_ j r h⟩
theorem empty_ok : m_law_asked [] [] [] = pure true := by
  have S : Sys ((([] : List (Int × Int)).map fun e => [e.1, e.2])) [] [] := ⟨⟨by simp, by simp⟩, fun p q r s h0 h1 => by simp at h1; omega, by simp, by simp [upto], by simp, by simp, .nil, .nil⟩
  have := asked_ok (hues := []) S
  simpa using this
theorem math (ns : List Int) (h : ns.length ≤ 63) : m_law ns = pure true := by
  rw [m_law_eq]
  unfold b_law
  obtain ⟨c, hc⟩ := cell_ok ns 0 (by omega) (by omega)
  obtain ⟨row, hrow, D⟩ := digits_ok c [10, 16, 16, 100000, 1000, 1000, 6, 3, 512, 100000] (by decide) (by decide)
  have D : Dig row [10, 16, 16, 100000, 1000, 1000, 6, 3, 512, 100000] := D
  obtain ⟨d3, _, i3, _⟩ := D.get 3 (s := 100000) rfl
  obtain ⟨d8, _, i8, _⟩ := D.get 8 (s := 512) rfl
  obtain ⟨d9, _, i9, _⟩ := D.get 9 (s := 100000) rfl
  have i3' : idx row 3 = pure d3 := i3
  have i8' : idx row 8 = pure d8 := i8
  have i9' : idx row 9 = pure d9 := i9
  obtain ⟨rows, β, hb, B⟩ := built_ok ns D
  have hN := B.count
  obtain ⟨E, H, pl, a0, a1, st, hm, M⟩ := mixed_ok (factor := 1 + d3) (mask := 0) D (show (esOf rows).length < 4096 by omega)
  have F0 := fit0 B M
  have F1 := fit1 B M
  obtain ⟨O, C, hdue, S⟩ := due_ok B F0 (.inl rfl) (two_ok B F0)
  obtain ⟨O1, C1, hdue1, S1⟩ := due_ok B F1 (.inr rfl) (two_ok B F1)
  obtain ⟨E2, H2, pl2, _, _, _, hm2, _⟩ := mixed_ok (factor := 1 + d3) (mask := d8) D (show (esOf rows).length < 4096 by omega)
  have BL := B.pre (rows.length - 1)
  have hNL := BL.count
  obtain ⟨E3, H3, pl3, _, _, _, hm3, M3⟩ := mixed_ok (factor := 1 + d9) (mask := 511 - d8) D (show (esOf (rows.take (rows.length - 1))).length < 4096 by omega)
  have F3 := fit0 BL M3
  obtain ⟨O3, C3, hdue3, S3⟩ := due_ok BL F3 (.inl rfl) (two_ok BL F3)
  have hless : cut rows none (some (max 0 ((rows.length : Int) - 1))) = rows.take (rows.length - 1) := by
    rw [show max 0 ((rows.length : Int) - 1) = ((rows.length - 1 : Nat) : Int) by omega, cut_take]
  have hex : mapO (fun e : Int × Int => (pure (e.2, e.1) : Out (Int × Int))) E = pure (E.map fun e => (e.2, e.1)) := mapO_ok E fun _ _ => rfl
  rw [hc, pbind, hrow, pbind, hb, pbind, i3', pbind, pbind, hm, pbind]
  rw [hdue, pbind, asked_ok S, pbind, pbind, if_neg (by decide), empty_ok, pbind, pbind, if_neg (by decide), pbind, pbind, i8', pbind, hm2, pbind, asked_ok S, pbind, pbind, if_neg (by decide), pbind, hex, pbind, hdue1, pbind, asked_ok S1, pbind, pbind, if_neg (by decide), pbind, hless, i9', pbind, pbind, pbind, hm3, pbind, hdue3, pbind, asked_ok S3, pbind, pbind, if_neg (by decide), hue_ok S (dn_ok (cTup (cT2 cInt cInt)) _ (by decide)) (frz_pairs _), pbind, same_ok]

end My
set_option maxHeartbeats 0
open PySem PySem.W PySem.Calls PyProof.Rows
theorem PySem.Challenge.cw_sloweralone_k20_hue_rows_whole_holds : PySem.Challenge.rw_sloweralone_k20_hue_rows_whole.Holds := by
  w_on; o_law
  refine HandSHeadRun.head_any (r := OpenLaw.row PySem.Challenge.rw_sloweralone_k20_hue_rows_whole) (q := view (OpenLaw.row PySem.Challenge.rw_sloweralone_k20_hue_rows_whole).prog [21]) (H := My.hk) (ob := My.ob) (M := 2000) (loose := My.loose) (d := HandSHeadRun.topDef (OpenLaw.row PySem.Challenge.rw_sloweralone_k20_hue_rows_whole).prog 21) (kwd := []) My.ob_eq
    (by kernel_rfl) (fun s => by kernel_rfl) My.run (by kernel_rfl) (by kernel_rfl) (by kernel_rfl) (by rfl) (by first | assumption | decide +kernel) (by decide +kernel) ⟨rfl, rfl, rfl, rfl, rfl, by decide +kernel⟩ ?hw ?hc
  case hw => w_witness2
  case hc =>
    refine SL.walk_law (l := PySem.Challenge.rw_sloweralone_k20_hue_rows_whole) (n := 63) (k := 12) (x := "script") (m := My.m_law) rfl (by decide) (by kernel_rfl) ⟨rfl, by decide, by decide⟩ ?F My.math
    intro w mg fa h Y G hmg0
    obtain ⟨K, KX, c⟩ := Y
    have hmg : mg ("law" : PySem.Str) = some (.ref fa) := by
      have e : (HandSHeadRun.topDef (OpenLaw.row PySem.Challenge.rw_sloweralone_k20_hue_rows_whole).prog 21).name = ("law" : PySem.Str) := by kernel_rfl
      rw [← e]
      exact hmg0
    obtain ⟨fd, hb, hF⟩ := My.facts (P := (PySem.Challenge.rw_sloweralone_k20_hue_rows_whole).prog) (w := w) KX G hmg c
    exact ⟨K, fd, KX, hb, hF⟩
